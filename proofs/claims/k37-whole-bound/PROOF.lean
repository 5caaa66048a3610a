import PyProof.Rows.All
import Wide.All
import OpenK.AllK
import Wide.FinOn
import HandS.ForMost
import HandS.ForExc
import HandS.SetKeys
import HandS.Conv
import HandS.IsInst
import HandS.TryElse
import HandS.CallSlots
import HandS.Style
import HandS.Flow
import HandS.SortOrd
import HandS.More
import KE.SortData
import KE.SortKeyHeap
import PySem.Challenge.RW_fieldrows_k37_whole_bound_of_parts
import KE.KDictPairs
import KE.KDictList
import KE.DataMinMax
import PyProof.DictUpdate
import PyProof.DictValues
import HandS.SortKw
import KE.KSortTupAny
import KE.KItemsList
import KE.KSortKey
import HandS.ListItems
import HandS.Walk
set_option Elab.async false
set_option linter.all false
set_option maxRecDepth 100000
set_option maxHeartbeats 4000000
/-! Fw0: the text by places, a def's bundle, heaps that keep what they must, kinds as data. -/
namespace Fw
open PySem PySem.Spec PyProof.Rows L2
/-! ### the text -/
def top (i : Nat) : Stmt := PySem.Challenge.pw_fieldrows_k37_whole_bound_of_parts.main.body.getD i (.Pass ⟨0, 0, 0, 0⟩)
/-- a def of the text, where it stands, how it is called -/
structure Dfn (K : PySem.W.Frag) (mg : Str → Option Value) (x : Str) (st : Stmt) (ps : List Str) : Prop where
  ex : ∃ f fd, Fun K x x st f fd ∧ mg x = some (.ref f) ∧ Binds K fd ps []
/-- a def that keeps a promise -/
structure Cal (P : Program) (w : World) (K : PySem.W.Frag) (mg : Str → Option Value) (base : Heap) (CX : CXT) (k : Nat) (x : Str) (ps : List Str) (sp : Sp) : Prop where
  ex : ∃ f fd, FnOk P w K mg base CX k f fd ps sp ∧ mg x = some (.ref f) ∧ PySem.W.keepIn K (.ref f) = true ∧ Binds K fd ps []
/-- a method of a class of the text -/
structure Mtd (K : PySem.W.Frag) (C : Addr) (m qual : Str) (st : Stmt) (ps : List Str) : Prop where
  ex : ∃ f fd, Fun K m qual st f fd ∧ Meth K C m f ∧ Binds K fd ps []
structure CalM (P : Program) (w : World) (K : PySem.W.Frag) (mg : Str → Option Value) (base : Heap) (CX : CXT) (k : Nat) (C : Addr) (m : Str) (ps : List Str) (sp : Sp) : Prop where
  ex : ∃ f fd, FnOk P w K mg base CX k f fd ps sp ∧ Meth K C m f ∧ Binds K fd ps []
/-- a class's __init__ -/
structure CalI (P : Program) (w : World) (K : PySem.W.Frag) (mg : Str → Option Value) (base : Heap) (CX : CXT) (k : Nat) (C : Addr) (ps : List Str) (sp : Sp) : Prop where
  ex : ∃ f fd, FnOk P w K mg base CX k f fd ps sp ∧ Mk K C f ∧ Binds K fd ps []
structure Ini (K : PySem.W.Frag) (C : Addr) (qual : Str) (st : Stmt) (ps : List Str) : Prop where
  ex : ∃ f fd, Fun K "__init__" qual st f fd ∧ Mk K C f ∧ Binds K fd ps []
section
variable {P : Program} {w : World} {K : PySem.W.Frag} {mg : Str → Option Value} {base : Heap}
theorem cal_of {x : Str} {st : Stmt} {N ps : List Str} {k : Nat} {sp : Sp} (D : Dfn K mg x st ps) (S : FnScope N ps (defScope st)) (len : ∀ vs H Q E, sp vs H Q E → vs.length = ps.length)
    (hb : ∀ (f : Addr) (cdv : Value) (A : Around) (outer : List Env) (s : Shared) (H : Hp) (vs : List V) (Q : VK) (E : XK), Room k (A.deeper (envOfC x (defScope st) s.heap.objs.size f cdv)) → sp vs H Q E →
      ∃ t, PSs (cxOf CX0 P w K mg base N x (defScope st) f cdv A outer s H E).nox (defBody st) t ∧ t { nx := fun _ H' => Q .non H', rt := Q } (start N vs) H) : Cal P w K mg base CX0 (k + 1) x ps sp := by
  obtain ⟨f, fd, F, m, b⟩ := D.ex
  exact ⟨f, fd, F.ok S len (hb f), m, F.kp, b⟩
theorem cal_ofX {x : Str} {st : Stmt} {N ps : List Str} {k : Nat} {sp : Sp} (D : Dfn K mg x st ps) (S : FnScope N ps (defScope st)) (len : ∀ vs H Q E, sp vs H Q E → vs.length = ps.length)
    (hb : ∀ (f : Addr) (cdv : Value) (A : Around) (outer : List Env) (s : Shared) (H : Hp) (vs : List V) (Q : VK) (E : XK), Room k (A.deeper (envOfC x (defScope st) s.heap.objs.size f cdv)) → sp vs H Q E →
      ∃ t, PSs (cxOf (L2.CX P w) P w K mg base N x (defScope st) f cdv A outer s H E) (defBody st) t ∧ t { nx := fun _ H' => Q .non H', rt := Q } (start N vs) H) : Cal P w K mg base (L2.CX P w) (k + 1) x ps sp := by
  obtain ⟨f, fd, F, m, b⟩ := D.ex
  exact ⟨f, fd, F.okX S len (hb f), m, F.kp, b⟩
theorem calM_of {C : Addr} {x q : Str} {st : Stmt} {N ps : List Str} {k : Nat} {sp : Sp} (D : Mtd K C x q st ps) (S : FnScope N ps (defScope st)) (len : ∀ vs H Q E, sp vs H Q E → vs.length = ps.length)
    (hb : ∀ (f : Addr) (cdv : Value) (A : Around) (outer : List Env) (s : Shared) (H : Hp) (vs : List V) (Q : VK) (E : XK), Room k (A.deeper (envOfC q (defScope st) s.heap.objs.size f cdv)) → sp vs H Q E →
      ∃ t, PSs (cxOf CX0 P w K mg base N q (defScope st) f cdv A outer s H E).nox (defBody st) t ∧ t { nx := fun _ H' => Q .non H', rt := Q } (start N vs) H) : CalM P w K mg base CX0 (k + 1) C x ps sp := by
  obtain ⟨f, fd, F, m, b⟩ := D.ex
  exact ⟨f, fd, F.ok S len (hb f), m, b⟩
theorem calI_of {C : Addr} {q : Str} {st : Stmt} {N ps : List Str} {k : Nat} {sp : Sp} (D : Ini K C q st ps) (S : FnScope N ps (defScope st)) (len : ∀ vs H Q E, sp vs H Q E → vs.length = ps.length)
    (hb : ∀ (f : Addr) (cdv : Value) (A : Around) (outer : List Env) (s : Shared) (H : Hp) (vs : List V) (Q : VK) (E : XK), Room k (A.deeper (envOfC q (defScope st) s.heap.objs.size f cdv)) → sp vs H Q E →
      ∃ t, PSs (cxOf CX0 P w K mg base N q (defScope st) f cdv A outer s H E).nox (defBody st) t ∧ t { nx := fun _ H' => Q .non H', rt := Q } (start N vs) H) : CalI P w K mg base CX0 (k + 1) C ps sp := by
  obtain ⟨f, fd, F, m, b⟩ := D.ex
  exact ⟨f, fd, F.ok S len (hb f), m, b⟩
theorem cal_none {CX : CXT} {x : Str} {st : Stmt} {ps : List Str} {k : Nat} {sp : Sp} (D : Dfn K mg x st ps) (no : ∀ vs H Q E, ¬ sp vs H Q E) : Cal P w K mg base CX k x ps sp := by
  obtain ⟨f, fd, F, m, b⟩ := D.ex
  exact ⟨f, fd, ⟨fun vs H Q E h => absurd h (no vs H Q E), fun A outer s H args us vs Q E _ _ _ _ h => absurd h (no vs H Q E)⟩, m, F.kp, b⟩
theorem Cal.mono {CX : CXT} {j k : Nat} {x : Str} {ps : List Str} {sp : Sp} (c : Cal P w K mg base CX j x ps sp) (h : j ≤ k) : Cal P w K mg base CX k x ps sp := by
  obtain ⟨f, fd, F, r⟩ := c.ex
  exact ⟨f, fd, F.mono h, r⟩
theorem Cal.imp {CX : CXT} {k : Nat} {x : Str} {ps : List Str} {sp sp' : Sp} (c : Cal P w K mg base CX k x ps sp) (h : ∀ vs H Q E, sp' vs H Q E → sp vs H Q E) : Cal P w K mg base CX k x ps sp' := by
  obtain ⟨f, fd, F, r⟩ := c.ex
  exact ⟨f, fd, F.imp h, r⟩
end
section
variable {X : Cx} {CX : CXT} {k : Nat} {C : Addr} {x m : Str} {ps : List Str} {sp : Sp} {p pos apos : Pos} {e o : Expr} {es : List Expr} {t : TA} {ta : TE} {E : XK}
theorem pe_cal (c : Cal X.prog X.w X.K X.mg X.base CX k x ps sp) (hr : Room k X.A) (hx : Passes CX X E) (ha : PA X (e :: es) t) (hg : Gl X x := by rfl) (hdb : (x == ("__debug__" : Str)) = false := by decide)
    (he : starEach (e :: es) X.env = (false, eval e X.env) :: starEach es X.env := by rfl) (hpl : (backTo pos (starEach es X.env)).any (·.1) = false := by rfl) : PE X (.Call (.Name x p) (e :: es) [] pos) (tCall sp [] E t) := by
  obtain ⟨f, fd, F, hm, kp, b⟩ := c.ex
  exact pe_call F hr hg hm kp b .nil hx ha hdb he hpl
/-- a call that may raise, in a def that lets it out or in a try: what is raised meets W at the slots -/
theorem pe_calS {W : WX} (c : Cal X.prog X.w X.K X.mg X.base (L2.CX X.prog X.w) k x ps sp) (hr : Room k X.A) (tk : Takes X W) (ha : PA X (e :: es) t) (hg : Gl X x := by rfl) (hdb : (x == ("__debug__" : Str)) = false := by decide)
    (he : starEach (e :: es) X.env = (false, eval e X.env) :: starEach es X.env := by rfl) (hpl : (backTo pos (starEach es X.env)).any (·.1) = false := by rfl) :
    PE X (.Call (.Name x p) (e :: es) [] pos) (tCallSD sp [] (fun σ cls d H => W cls d σ H) t) := by
  obtain ⟨f, fd, F, hm, kp, b⟩ := c.ex
  refine pe_callSD F hr hg hm kp b .nil (fun σ pins H s u s' I h => ?_) ha hdb he hpl
  exact tk _ _ (XE.of_call I (fun _ _ _ z => z) h)
theorem pe_met {pl : Sem Bool} (he : PE X o ta) (cl : Cls X.K C) (c : CalM X.prog X.w X.K X.mg X.base CX k C m ps sp) (hr : Room k X.A) (hx : Passes CX X E) (ha : PA X (e :: es) t)
    (hst : starEach (e :: es) X.env = (false, eval e X.env) :: starEach es X.env := by rfl) (hpl : (backTo pos (starEach es X.env)).any (·.1) = false := by rfl)
    (ht : eval (.Call (.Attribute o m apos) (e :: es) [] pos) X.env = (do
      let ov ← eval o X.env
      standAt apos.atName
      let (f, first) ← holding [ov] (getMethod ov m pl)
      callWith pos f first (backTo pos (starEach (e :: es) X.env)) (backToKw pos (keywordEach [] X.env))) := by rfl) :
    PE X (.Call (.Attribute o m apos) (e :: es) [] pos) (tMeth C m sp [] E ta t) := by
  obtain ⟨f, fd, F, hm, b⟩ := c.ex
  exact pe_meth he cl hm F hr b .nil hx ha hst hpl ht
theorem pe_met0 {pl : Sem Bool} (he : PE X o ta) (cl : Cls X.K C) (c : CalM X.prog X.w X.K X.mg X.base CX k C m ps sp) (hr : Room k X.A) (hx : Passes CX X E)
    (ht : eval (.Call (.Attribute o m apos) [] [] pos) X.env = (do
      let ov ← eval o X.env
      standAt apos.atName
      let (f, first) ← holding [ov] (getMethod ov m pl)
      callWith pos f first (backTo pos (starEach [] X.env)) (backToKw pos (keywordEach [] X.env))) := by rfl) :
    PE X (.Call (.Attribute o m apos) [] [] pos) (tMeth C m sp [] E ta tNil) := by
  obtain ⟨f, fd, F, hm, b⟩ := c.ex
  exact pe_meth0 he cl hm F hr b .nil hx ht
theorem pe_mak (hm : X.mg x = some (.ref C)) (c : CalI X.prog X.w X.K X.mg X.base CX k C ps sp) (hr : Room (k + 1) X.A) (hx : Passes CX X E) (ha : PA X (e :: es) t) (hg : Gl X x := by rfl) (hdb : (x == ("__debug__" : Str)) = false := by decide)
    (he : starEach (e :: es) X.env = (false, eval e X.env) :: starEach es X.env := by rfl) (hpl : (backTo pos (starEach es X.env)).any (·.1) = false := by rfl) : PE X (.Call (.Name x p) (e :: es) [] pos) (tMake C sp [] E t) := by
  obtain ⟨f, fd, F, M, b⟩ := c.ex
  exact pe_make M F hr hg hm b .nil hx ha hdb he hpl
theorem pe_mak0 (hm : X.mg x = some (.ref C)) (c : CalI X.prog X.w X.K X.mg X.base CX k C ps sp) (hr : Room (k + 1) X.A) (hx : Passes CX X E) (hg : Gl X x := by rfl) (hdb : (x == ("__debug__" : Str)) = false := by decide) :
    PE X (.Call (.Name x p) [] [] pos) (tMake C sp [] E tNil) := by
  obtain ⟨f, fd, F, M, b⟩ := c.ex
  exact pe_make0 M F hr hg hm b .nil hx hdb
end
/-! ### within a comprehension: the written part by its letter -/
theorem pg_tupK {K : PySem.W.Frag} {es : List Expr} {j : Nat} {t : TGs} {n : Nat} (hK : X.K = K) (hc : X.calm = true) (h : PGs X es t)
    (hn : (assignEach es X.env).length = n := by rfl) (hst : (assignEach es X.env).findIdx? (·.1) = none := by rfl) : PG X (.Tuple es j pos) (gTup K n t) := by
  subst hK
  exact pg_tup hc h hn hst
theorem ix_tupK {K : PySem.W.Frag} (hK : X.K = K) : IxR X (rIxT K) := by
  subst hK
  exact ix_tup
theorem ix_listK {K : PySem.W.Frag} (hK : X.K = K) : IxR X (rIxL K) := by
  subst hK
  exact ix_list
/-! ### tuples that are known to have no dict of their own (dict(t) looks there) -/
def SqP (H : Hp) (a : Addr) (xs : List V) : Prop := ∃ o : Obj, H a = some (.frz o (.tup xs)) ∧ o.dict = none
def tTupP (t : TA) : TE := fun σ H Q => t σ H fun xs H1 => xs.length ≤ sizeLine ∧ ∀ (p : Addr) (o : Obj), H1 p = none → o.dict = none → Q (.ref p) (upd H1 p (.frz o (.tup xs)))
theorem pe_tupP {j : Nat} (h : PA X es t) : PE X (.Tuple es j pos) (tTupP t) := by
  refine ⟨fun pz sh σ1 Ha Qa Ia hq => ?_⟩
  refine wpAny_Tuple_spliced (thn (h.run pos pz sh σ1 Ha _ Ia hq) fun us s1 ⟨xs, H1, I1, r, z, q⟩ => ⟨by rw [← r.length]; exact z, ?_⟩)
  have hf : H1 s1.heap.objs.size = none := I1.hok.fresh (Nat.le_refl _)
  have hg := Heap.get?_push_size s1.heap (o := { cls := .type "tuple", data := .seq us.toArray }) rfl
  refine ⟨.ref s1.heap.objs.size, _, I1.laid (t' := s1.toks) (o := .frz { cls := .type "tuple", data := .seq us.toArray } (.tup xs)) (fun b u e => Heap.get?_push_of_some _ e) (Nat.le_refl _) ⟨hg, ?_⟩, rfl, q _ _ hf rfl⟩
  exact ⟨z, us, r, ⟨_, hg, rfl, _, rfl⟩⟩
theorem call_tupleP : CallR X (.type "tuple") (fun xs H Q => ∃ (p : Addr) (ys : List V), xs = [.ref p] ∧ SqL X.K H p ys ∧ ∀ (l : Addr) (o : Obj), H l = none → o.dict = none → Q (.ref l) (upd H l (.frz o (.tup ys)))) := by
  intro pz sh σ1 Ha xs us Qa Ia r h
  obtain ⟨p, ys, ex, hq, q⟩ := h
  subst ex
  obtain ⟨u, eu, rx⟩ := vals1 r
  subst eu
  cases rx
  obtain ⟨its, r', pl, hz⟩ := Ia.list hq
  have hlen := r'.length
  refine call_tuple_list pl.isList (fun h' kp => ?_) (by simp only [List.size_toArray] <;> omega)
  have I1 : Inv X pz σ1 Ha { sh with heap := h' } := Ia.kept (t' := sh.toks) kp
  have hg := Heap.get?_push_size h' (o := { cls := .type "tuple", data := .seq its.toArray }) rfl
  refine ⟨.ref h'.objs.size, _, I1.laid (t' := sh.toks) (o := .frz { cls := .type "tuple", data := .seq its.toArray } (.tup ys)) (fun b o e => Heap.get?_push_of_some _ e) (Nat.le_refl _) ⟨hg, ?_⟩, rfl, q _ _ (I1.hok.fresh (Nat.le_refl _)) rfl⟩
  exact ⟨hz, its, r', ⟨_, hg, rfl, _, rfl⟩⟩
theorem tyes {σ : L2.St} {H : Hp} {A B : Hp → Prop} (h : A H) : tYes σ H (fun b H3 => if b = true then A H3 else B H3) := by
  show if true = true then A H else B H
  exact iteT h
/-! ### heaps -/
def isT : HO → Bool
  | .tup _ => true
  | .frz _ (.tup _) => true
  | _ => false
/-- all is as it was but what S names; tuples stay in any case -/
def Keep (S : Addr → Prop) (H H' : Hp) : Prop := ∀ b o, H b = some o → (isT o = true ∨ ¬ S b) → H' b = some o
abbrev No : Addr → Prop := fun _ => False
theorem Keep.refl {S : Addr → Prop} (H : Hp) : Keep S H H := fun _ _ h _ => h
theorem Keep.mono {S S' : Addr → Prop} {H H' : Hp} (k : Keep S H H') (h : ∀ b, S b → S' b) : Keep S' H H' := fun b o e z => k b o e (z.imp id fun n q => n (h b q))
theorem Keep.trans {S S1 : Addr → Prop} {H H1 H2 : Hp} (a : Keep S H H1) (b : Keep S1 H1 H2) (h : ∀ c, S1 c → S c ∨ H c = none) : Keep S H H2 := fun c o e z =>
  b c o (a c o e z) (z.imp id fun n q => (h c q).elim n fun q => by rw [e] at q; cases q)
theorem Keep.tr {S : Addr → Prop} {H H1 H2 : Hp} (a : Keep S H H1) (b : Keep S H1 H2) : Keep S H H2 := a.trans b fun _ h => .inl h
theorem Keep.trN {S : Addr → Prop} {H H1 H2 : Hp} (a : Keep S H H1) (b : Keep No H1 H2) : Keep S H H2 := a.trans b fun _ h => h.elim
theorem Keep.same {S : Addr → Prop} {H H' : Hp} (s : Same H H') : Keep S H H' := fun b o e _ => s b o e
theorem Keep.toSame {H H' : Hp} (k : Keep No H H') : Same H H' := fun b o e => k b o e (.inr id)
theorem Keep.at {S : Addr → Prop} {H H' : Hp} (k : Keep S H H') {b : Addr} {o : HO} (e : H b = some o) (h : ¬ S b) : H' b = some o := k b o e (.inr h)
theorem Keep.tup {S : Addr → Prop} {H H' : Hp} (k : Keep S H H') {b : Addr} {xs : List V} (e : H b = some (.tup xs)) : H' b = some (.tup xs) := k b _ e (.inl rfl)
theorem Keep.free {S : Addr → Prop} {H H' : Hp} (k : Keep S H H') {b : Addr} (e : H' b = none) (h : ¬ S b) : H b = none := by
  cases q : H b with
  | none => rfl
  | some o => rw [k.at q h] at e; cases e
theorem keep_upd {S : Addr → Prop} {H : Hp} {a : Addr} {o o' : HO} (h : H a = some o) (m : isT o = false) (s : S a) : Keep S H (upd H a o') := fun b u e z => by
  have hb : b ≠ a := by
    rintro rfl
    rw [h] at e
    cases e
    rcases z with z | z
    · rw [m] at z; cases z
    · exact z s
  rw [upd_ne hb]
  exact e
theorem keep_new {S : Addr → Prop} {H : Hp} {a : Addr} {o' : HO} (h : H a = none) : Keep S H (upd H a o') := fun b u e _ => by
  rw [upd_ne (ne_of_none e h)]
  exact e
theorem sqT_keep {K : PySem.W.Frag} {S : Addr → Prop} {H H' : Hp} {a : Addr} {xs : List V} (k : Keep S H H') (h : SqT K H a xs) : SqT K H' a xs := by
  rcases h with (h | ⟨o, h⟩) | h
  · exact .inl (.inl (k _ _ h (.inl rfl)))
  · exact .inl (.inr ⟨o, k _ _ h (.inl rfl)⟩)
  · exact .inr h
theorem SqP.sqT {K : PySem.W.Frag} {H : Hp} {a : Addr} {xs : List V} (h : SqP H a xs) : SqT K H a xs := by
  obtain ⟨o, h, _⟩ := h
  exact .inl (.inr ⟨o, h⟩)
theorem SqP.keep {S : Addr → Prop} {H H' : Hp} {a : Addr} {xs : List V} (h : SqP H a xs) (k : Keep S H H') : SqP H' a xs := by
  obtain ⟨o, h, n⟩ := h
  exact ⟨o, k _ _ h (.inl rfl), n⟩
/-- a new object: its heap from then on a letter -/
theorem newO {H : Hp} {o : HO} {Q : Addr → Hp → Prop} (h : ∀ p H', H p = none → Same H H' → H' p = some o → Q p H') : ∀ p, H p = none → Q p (upd H p o) := fun p n => h p _ n (fun b u e => by rw [upd_ne (ne_of_none e n)]; exact e) upd_same
/-- an object that is changed: the heap from then on a letter -/
theorem mutO {H : Hp} {a : Addr} {o : HO} {Q : Hp → Prop} (h : ∀ H', H' a = some o → (∀ b, b ≠ a → H' b = H b) → Q H') : Q (upd H a o) := h _ upd_same fun b hb => upd_ne hb
theorem keep_of_ne {S : Addr → Prop} {H H' : Hp} {a : Addr} {o : HO} (h : H a = some o) (m : isT o = false) (s : S a) (e : ∀ b, b ≠ a → H' b = H b) : Keep S H H' := fun b u q z => by
  have hb : b ≠ a := by
    rintro rfl
    rw [h] at q
    cases q
    rcases z with z | z
    · rw [m] at z; cases z
    · exact z s
  rw [e b hb]
  exact q
@[elab_as_elim] theorem newG {H : Hp} {p : Addr} {o : HO} {R : Hp → Prop} (n : H p = none) (h : ∀ H', Same H H' → H' p = some o → R H') : R (upd H p o) := h _ (keep_new (S := No) n).toSame upd_same
@[elab_as_elim] theorem mutG {H : Hp} {a : Addr} {o o' : HO} {R : Hp → Prop} (e : H a = some o') (m : isT o' = false) (h : ∀ H', Keep (· = a) H H' → H' a = some o → R H') : R (upd H a o) := h _ (keep_upd e m rfl) upd_same
/-- what is new may change -/
theorem same_over {H H1 H2 : Hp} {a : Addr} (s : Same H H1) (k : Keep (· = a) H1 H2) (n : H a = none) : Same H H2 := fun b o e => k.at (s b o e) (by rintro rfl; rw [n] at e; cases e)
end Fw
/-! Fw1: kinds as data. -/
namespace Fw
open PySem PySem.Spec PyProof.Rows L2
inductive Kd where
  | num
  | var (n : Nat)
  | fn (a b : Kd)
  | rc (fs : List (Str × Kd)) (t : Option Nat)
def tV : Option Nat → V
  | none => .non
  | some n => .int n
mutual
/-- the value v is the kind d -/
inductive IsK (K : PySem.W.Frag) (H : Hp) : V → Kd → Prop
  | num {a : Addr} : SqT K H a [.str "num"] → IsK K H (.ref a) .num
  | var {a : Addr} {n : Nat} : SqT K H a [.str "var", .int n] → IsK K H (.ref a) (.var n)
  | fn {a : Addr} {x y : V} {A B : Kd} : SqT K H a [.str "fun", x, y] → IsK K H x A → IsK K H y B → IsK K H (.ref a) (.fn A B)
  | rc {a r f : Addr} {vs : List V} {fs : List (Str × Kd)} {t : Option Nat} : SqT K H a [.str "rec", .ref r] → SqT K H r [.str "row", .ref f, tV t] → SqP H f vs → IsFs K H vs fs → IsK K H (.ref a) (.rc fs t)
inductive IsFs (K : PySem.W.Frag) (H : Hp) : List V → List (Str × Kd) → Prop
  | nil : IsFs K H [] []
  | cons {p : Addr} {l : Str} {x : V} {d : Kd} {vs : List V} {fs : List (Str × Kd)} : SqT K H p [.str l, x] → IsK K H x d → IsFs K H vs fs → IsFs K H (.ref p :: vs) ((l, d) :: fs)
end
/-- the value v is the row of these fields and this tail -/
def IsR (K : PySem.W.Frag) (H : Hp) (v : V) (fs : List (Str × Kd)) (t : Option Nat) : Prop := ∃ r f vs, v = .ref r ∧ SqT K H r [.str "row", .ref f, tV t] ∧ SqP H f vs ∧ IsFs K H vs fs
theorem isR_rec {K : PySem.W.Frag} {H : Hp} {a : Addr} {v : V} {fs : List (Str × Kd)} {t : Option Nat} (e : SqT K H a [.str "rec", v]) (h : IsR K H v fs t) : IsK K H (.ref a) (.rc fs t) := by
  obtain ⟨r, f, vs, rfl, h1, h2, h3⟩ := h
  exact .rc e h1 h2 h3
section
variable {K : PySem.W.Frag} {S : Addr → Prop} {H H' : Hp}
mutual
theorem isK_keep (k : Keep S H H') : ∀ (d : Kd) (v : V), IsK K H v d → IsK K H' v d
  | .num, _, h => by cases h with | num e => exact .num (sqT_keep k e)
  | .var n, _, h => by cases h with | var e => exact .var (sqT_keep k e)
  | .fn A B, _, h => by cases h with | fn e x y => exact .fn (sqT_keep k e) (isK_keep k A _ x) (isK_keep k B _ y)
  | .rc fs t, _, h => by cases h with | rc a b c d => exact .rc (sqT_keep k a) (sqT_keep k b) (c.keep k) (isFs_keep k fs _ d)
theorem isFs_keep (k : Keep S H H') : ∀ (fs : List (Str × Kd)) (vs : List V), IsFs K H vs fs → IsFs K H' vs fs
  | [], _, h => by cases h; exact .nil
  | (l, d) :: r, _, h => by cases h with | cons a b c => exact .cons (sqT_keep k a) (isK_keep k d _ b) (isFs_keep k r _ c)
end
theorem IsK.keep {d : Kd} {v : V} (h : IsK K H v d) (k : Keep S H H') : IsK K H' v d := isK_keep k d v h
theorem IsFs.keep {fs : List (Str × Kd)} {vs : List V} (h : IsFs K H vs fs) (k : Keep S H H') : IsFs K H' vs fs := isFs_keep k fs vs h
theorem IsR.keep {v : V} {fs : List (Str × Kd)} {t : Option Nat} (h : IsR K H v fs t) (k : Keep S H H') : IsR K H' v fs t := by
  obtain ⟨r, f, vs, e, h1, h2, h3⟩ := h
  exact ⟨r, f, vs, e, sqT_keep k h1, h2.keep k, h3.keep k⟩
theorem IsFs.length : ∀ {fs : List (Str × Kd)} {vs : List V}, IsFs K H vs fs → vs.length = fs.length
  | [], _, h => by cases h; rfl
  | (l, d) :: r, _, h => by cases h with | cons a b c => simp [c.length]
theorem IsFs.get : ∀ {fs : List (Str × Kd)} {vs : List V} {i : Nat} {x : V}, IsFs K H vs fs → vs[i]? = some x → ∃ l d p y, fs[i]? = some (l, d) ∧ x = .ref p ∧ SqT K H p [.str l, y] ∧ IsK K H y d
  | [], _, _, _, h, e => by cases h; simp at e
  | (l, d) :: r, _, 0, _, h, e => by
    cases h with
    | cons a b c =>
      simp at e
      exact ⟨l, d, _, _, rfl, e.symm, a, b⟩
  | (l, d) :: r, _, i + 1, _, h, e => by
    cases h with
    | cons a b c =>
      obtain ⟨l', d', p, y, h1, h2⟩ := c.get (i := i) (by simpa using e)
      exact ⟨l', d', p, y, by simpa using h1, h2⟩
theorem isFs_snoc : ∀ {fs : List (Str × Kd)} {vs : List V} {p : Addr} {l : Str} {x : V} {d : Kd}, IsFs K H vs fs → SqT K H p [.str l, x] → IsK K H x d → IsFs K H (vs ++ [.ref p]) (fs ++ [(l, d)])
  | [], _, _, _, _, _, h, a, b => by cases h; exact .cons a b .nil
  | _ :: r, _, _, _, _, _, h, a, b => by cases h with | cons a' b' c => exact .cons a' b' (isFs_snoc c a b)
end
/-! ### the numbers of a kind -/
mutual
def Kd.nums : Kd → List Nat
  | .num => []
  | .var n => [n]
  | .fn a b => a.nums ++ b.nums
  | .rc fs t => numsF fs ++ t.toList
def numsF : List (Str × Kd) → List Nat
  | [] => []
  | (_, d) :: r => d.nums ++ numsF r
end
mutual
/-- how deep it is, in calls -/
def Kd.dp : Kd → Nat
  | .num => 0
  | .var _ => 0
  | .fn a b => max a.dp b.dp + 1
  | .rc fs _ => dpF fs + 1
def dpF : List (Str × Kd) → Nat
  | [] => 0
  | (_, d) :: r => max d.dp (dpF r)
end
theorem dpF_get : ∀ {fs : List (Str × Kd)} {i : Nat} {l : Str} {d : Kd}, fs[i]? = some (l, d) → d.dp ≤ dpF fs
  | [], _, _, _, e => by simp at e
  | (l, d) :: r, 0, _, _, e => by
    simp at e
    obtain ⟨rfl, rfl⟩ := e
    exact Nat.le_max_left _ _
  | (l, d) :: r, i + 1, _, _, e => Nat.le_trans (dpF_get (i := i) (by simpa using e)) (Nat.le_max_right _ _)
theorem numsF_append : ∀ (a b : List (Str × Kd)), numsF (a ++ b) = numsF a ++ numsF b
  | [], _ => rfl
  | (l, d) :: r, b => by simp [numsF, numsF_append r b]
theorem take_snoc {α : Type} {l : List α} {i : Nat} {x : α} (h : l[i]? = some x) : l.take (i + 1) = l.take i ++ [x] := by
  rw [List.take_add_one, h]; rfl
abbrev KVs := List (L2.Key × V)
def setN (kvs : KVs) (n : Nat) : KVs := match valV kvs (Sum.inl (n : Int)) with
  | some _ => kvs
  | none => putK kvs (Sum.inl (n : Int)) (.bl true)
def addN (kvs : KVs) (ns : List Nat) : KVs := ns.foldl setN kvs
theorem addN_append (kvs : KVs) (a b : List Nat) : addN kvs (a ++ b) = addN (addN kvs a) b := List.foldl_append
theorem setN_len (kvs : KVs) (n : Nat) : (setN kvs n).length ≤ kvs.length + 1 := by
  unfold setN
  split
  · omega
  · exact length_putK _ _ _
theorem addN_len : ∀ (ns : List Nat) (kvs : KVs), (addN kvs ns).length ≤ kvs.length + ns.length
  | [], _ => Nat.le_refl _
  | n :: r, kvs => by
    have h1 := addN_len r (setN kvs n)
    have h2 := setN_len kvs n
    show (addN (setN kvs n) r).length ≤ _
    simp only [List.length_cons]
    omega
theorem sz_lt {n : Nat} (h : n ≤ 100000) : n < sizeLine := Nat.lt_of_le_of_lt h (by decide)
theorem sz_le {n : Nat} (h : n ≤ 100000) : n ≤ sizeLine := Nat.le_of_lt (sz_lt h)
/-- what the program's top holds of built-ins, of classes -/
structure Txt (K : PySem.W.Frag) (mg : Str → Option Value) : Prop where
  len : mg "len" = none
  list : mg "list" = none
  dict : mg "dict" = none
  tuple : mg "tuple" = none
  sorted : mg "sorted" = none
  range : mg "range" = none
  reversed : mg "reversed" = none
  enumerate : mg "enumerate" = none
  isinstance : mg "isinstance" = none
  max : mg "max" = none
  min : mg "min" = none
  sum : mg "sum" = none
  int : mg "int" = none
  mgMOST : ∃ t, mg "MOST" = some (.int 200 t)
end Fw
/-! Fw2: note_numbers, numbers. -/
namespace Fw
open PySem PySem.Spec PyProof.Rows L2
abbrev s_note_numbers : Stmt := top 4
theorem sc_note_numbers : FnScope ["told", "seen", "word", "label", "held"] ["told", "seen"] (defScope s_note_numbers) := ⟨rfl, rfl, rfl, by decide +kernel, rfl, by decide +kernel, by decide +kernel⟩
def sp_note_numbers (K : PySem.W.Frag) (n : Nat) : Sp := fun vs H Q _ => ∃ (v : V) (a : Addr) (d : Kd) (kvs : KVs), vs = [v, .ref a] ∧ IsK K H v d ∧ d.dp < n ∧ H a = some (.dK kvs) ∧ kvs.length + d.nums.length ≤ 10000 ∧
  ∀ H', Keep (· = a) H H' → H' a = some (.dK (addN kvs d.nums)) → Q .non H'
section
variable {P : Program} {w : World} {K : PySem.W.Frag} {mg : Str → Option Value} {base : Heap}
/-- seen.setdefault(n, True) -/
theorem setd_ok {H : Hp} {a : Addr} {kvs : KVs} {n : Nat} {Q : V → Hp → Prop} (ha : H a = some (.dK kvs)) (hl : kvs.length ≤ 10000) (q : ∀ v H', Keep (· = a) H H' → H' a = some (.dK (setN kvs n)) → Q v H') :
    ∃ (kvs' : List (L2.Key × V)) (k : L2.Key), H a = some (.dK kvs') ∧ (V.int (n : Int)) = kV k ∧ kvs'.length < sizeLine ∧ (∀ v, valV kvs' k = some v → Q v H) ∧ (valV kvs' k = none → Q (.bl true) (upd H a (.dK (putK kvs' k (.bl true))))) := by
  refine ⟨kvs, Sum.inl (n : Int), ha, rfl, sz_lt (by omega), fun v e => ?_, fun e => ?_⟩
  · exact q v H (Keep.refl _) (by unfold setN; rw [e]; exact ha)
  · refine q _ _ (keep_upd ha rfl rfl) ?_
    rw [upd_same]
    unfold setN
    rw [e]
theorem no_note_numbers {n : Nat} (D : Dfn K mg "note_numbers" s_note_numbers ["told", "seen"]) (c_note_numbers : Cal P w K mg base CX0 n "note_numbers" ["told", "seen"] (sp_note_numbers K n)) :
    Cal P w K mg base CX0 (n + 1) "note_numbers" ["told", "seen"] (sp_note_numbers K (n + 1)) := by
  have S := sc_note_numbers
  refine cal_of D S (fun vs H Q E h => ?_) (fun f cdv A outer s H vs Q E hr h => ?_)
  · obtain ⟨v, a, d, kvs, rfl, _⟩ := h
    rfl
  obtain ⟨v, a, d, kvs, rfl, hv, hd, ha, hl, q⟩ := h
  have hu := hu_of hr
  refine ⟨_, (pss_cons (ps_set (i := 2) S.nd rfl (Or.inl rfl) (pe_ix ix_tup (pv 0) pe_int (fun _ _ => rfl)))
    (pss_one (ps_if (pt_cmpR op_eq (pv 2) pe_str (nomark _))
      (pss_one (ps_expr (pe_dsetd (pv 1) (pe_ix ix_tup (pv 0) pe_int (fun _ _ => rfl)) pe_bl ⟨rfl, rfl, rfl, rfl⟩)))
      (pss_one (ps_if (pt_cmpR op_eq (pv 2) pe_str (nomark _))
        (pss_cons (ps_expr (pe_cal c_note_numbers hr pass0 (pa_cons (pe_ix ix_tup (pv 0) pe_int (fun _ _ => rfl)) (pa_cons (pv 1) pa_nil))))
        (pss_one (ps_expr (pe_cal c_note_numbers hr pass0 (pa_cons (pe_ix ix_tup (pv 0) pe_int (fun _ _ => rfl)) (pa_cons (pv 1) pa_nil))))))
        (pss_one (ps_if (pt_cmpR op_ne (pv 2) pe_str (nomark _))
          (pss_cons (ps_for PassesOwn.never rfl (pi_tup (pe_ix ix_tup (pe_ix ix_tup (pv 0) pe_int (fun _ _ => rfl)) pe_int (fun _ _ => rfl))) (pg_tup rfl (pgs_cons (pg_name (i := 3) S.nd rfl (Or.inl rfl)) (pgs_cons (pg_name (i := 4) S.nd rfl (Or.inl rfl)) pgs_nil)))
            (pss_one (ps_expr (pe_cal c_note_numbers hr pass0 (pa_cons (pv 4) (pa_cons (pv 1) pa_nil))))))
          (pss_one (ps_if (pt_cmpR op_notN (pe_ix ix_tup (pe_ix ix_tup (pv 0) pe_int (fun _ _ => rfl)) pe_int (fun _ _ => rfl)) pe_non (nomark _))
            (pss_one (ps_expr (pe_dsetd (pv 1) (pe_ix ix_tup (pe_ix ix_tup (pv 0) pe_int (fun _ _ => rfl)) pe_int (fun _ _ => rfl)) pe_bl ⟨rfl, rfl, rfl, rfl⟩)))
            pss_nil)))
          pss_nil))))))), ?_⟩
  cases hv with
  | @num p e =>
    refine ⟨_, rfl, p, _, _, _, rfl, rfl, e, atI_nat rfl, ?_⟩
    refine ⟨_, rfl, rfl, _, rfl, iteF ?_⟩
    refine ⟨_, rfl, rfl, _, rfl, iteF ?_⟩
    refine ⟨_, rfl, rfl, _, rfl, iteF ?_⟩
    exact q H (Keep.refl _) ha
  | @var p m e =>
    refine ⟨_, rfl, p, _, _, _, rfl, rfl, e, atI_nat rfl, ?_⟩
    refine ⟨_, rfl, rfl, _, rfl, iteT ?_⟩
    refine ⟨_, rfl, a, rfl, .inl ⟨_, .of ha⟩, _, rfl, p, _, _, _, rfl, rfl, e, atI_nat rfl, ?_⟩
    exact setd_ok ha (by omega) fun v H' k h => q H' k h
  | @fn p x y A B e hx hy =>
    have hl' : kvs.length + (A.nums ++ B.nums).length ≤ 10000 := hl
    rw [List.length_append] at hl'
    have hd' : max A.dp B.dp + 1 < n + 1 := hd
    refine ⟨_, rfl, p, _, _, _, rfl, rfl, e, atI_nat rfl, ?_⟩
    refine ⟨_, rfl, rfl, _, rfl, iteF ?_⟩
    refine ⟨_, rfl, rfl, _, rfl, iteT ?_⟩
    refine ⟨_, rfl, p, _, _, _, rfl, rfl, e, atI_nat rfl, _, rfl, x, a, A, kvs, rfl, hx, by omega, ha, by omega, fun H1 k1 h1 => ?_⟩
    have l1 := addN_len A.nums kvs
    refine ⟨_, rfl, p, _, _, _, rfl, rfl, sqT_keep k1 e, atI_nat rfl, _, rfl, y, a, B, _, rfl, hy.keep k1, by omega, h1, by omega, fun H2 k2 h2 => ?_⟩
    refine q H2 (k1.tr k2) ?_
    show H2 a = some (.dK (addN kvs (A.nums ++ B.nums)))
    rw [addN_append]
    exact h2
  | @rc p r f vs fs t e1 e2 e3 e4 =>
    have hl' : kvs.length + (numsF fs ++ t.toList).length ≤ 10000 := hl
    rw [List.length_append] at hl'
    have hd' : dpF fs + 1 < n + 1 := hd
    refine ⟨_, rfl, p, _, _, _, rfl, rfl, e1, atI_nat rfl, ?_⟩
    refine ⟨_, rfl, rfl, _, rfl, iteF ?_⟩
    refine ⟨_, rfl, rfl, _, rfl, iteF ?_⟩
    refine ⟨_, rfl, rfl, _, rfl, iteT ?_⟩
    refine ⟨_, rfl, p, _, _, _, rfl, rfl, e1, atI_nat rfl, r, _, _, _, rfl, rfl, e2, atI_nat rfl, f, rfl, ⟨_, e3.sqT⟩, ?_⟩
    have ln := e4.length
    refine for_tup (K := K) (a := f) (xs := vs) (fun i σ H' => ∃ l h, σ = [some (.ref p), some (.ref a), some (.str "rec"), l, h] ∧ Keep (· = a) H H' ∧ H' a = some (.dK (addN kvs (numsF (fs.take i)))))
      ⟨_, _, rfl, Keep.refl _, ha⟩ (fun i σ H' _ ⟨_, _, _, k, _⟩ => sqT_keep k e3.sqT) ?_ ?_
    · rintro i x σ H1 hi ⟨l, h, rfl, k1, h1⟩
      obtain ⟨lb, kd, pp, y, g1, rfl, g2, g3⟩ := e4.get hi
      have l1 := addN_len (numsF (fs.take i)) kvs
      have l2 : numsF fs = numsF (fs.take i) ++ (kd.nums ++ numsF (fs.drop (i + 1))) := by
        have e := numsF_append (fs.take (i + 1)) (fs.drop (i + 1))
        rw [List.take_append_drop, take_snoc g1, numsF_append] at e
        rw [e]
        simp [numsF]
      have l3 := congrArg List.length l2
      rw [List.length_append, List.length_append] at l3
      have l4 := dpF_get g1
      refine ⟨pp, _, rfl, sqT_keep k1 g2, rfl, _, _, rfl, _, _, rfl, rfl, ?_⟩
      refine ⟨_, rfl, _, rfl, y, a, kd, _, rfl, g3.keep k1, by omega, h1, by omega, fun H2 k2 h2 => ?_⟩
      refine ⟨_, _, rfl, k1.tr k2, ?_⟩
      rw [h2, take_snoc g1, numsF_append, addN_append]
      simp [numsF]
    · rintro σ H1 ⟨l, h, rfl, k1, h1⟩
      have l1 := addN_len (numsF fs) kvs
      rw [ln, List.take_length] at h1
      refine ⟨_, rfl, p, _, _, _, rfl, rfl, sqT_keep k1 e1, atI_nat rfl, r, _, _, _, rfl, rfl, sqT_keep k1 e2, atI_nat rfl, rfl, ?_⟩
      cases t with
      | none =>
        refine ⟨_, rfl, iteF ?_⟩
        refine q H1 k1 ?_
        show H1 a = some (.dK (addN kvs (numsF fs ++ [])))
        rw [List.append_nil]
        exact h1
      | some t =>
        have l5 : kvs.length + ((numsF fs).length + 1) ≤ 10000 := hl'
        refine ⟨_, rfl, iteT ?_⟩
        refine ⟨_, rfl, a, rfl, .inl ⟨_, .of h1⟩, _, rfl, p, _, _, _, rfl, rfl, sqT_keep k1 e1, atI_nat rfl, r, _, _, _, rfl, rfl, sqT_keep k1 e2, atI_nat rfl, ?_⟩
        refine setd_ok h1 (by omega) fun v H' k h => q H' (k1.tr k) ?_
        show H' a = some (.dK (addN kvs (numsF fs ++ [t])))
        rw [addN_append]
        exact h
theorem ok_note_numbers (D : Dfn K mg "note_numbers" s_note_numbers ["told", "seen"]) : ∀ n, Cal P w K mg base CX0 n "note_numbers" ["told", "seen"] (sp_note_numbers K n)
  | 0 => cal_none D fun vs H Q E ⟨_, _, _, _, _, _, h, _⟩ => absurd h (Nat.not_lt_zero _)
  | n + 1 => no_note_numbers D (ok_note_numbers D n)
abbrev s_numbers : Stmt := top 5
theorem sc_numbers : FnScope ["told", "seen"] ["told"] (defScope s_numbers) := ⟨rfl, rfl, rfl, by decide +kernel, rfl, by decide +kernel, by decide +kernel⟩
def sp_numbers (K : PySem.W.Frag) (n : Nat) : Sp := fun vs H Q _ => ∃ (v : V) (d : Kd), vs = [v] ∧ IsK K H v d ∧ d.dp < n ∧ d.nums.length ≤ 10000 ∧
  ∀ p H', Same H H' → H p = none → H' p = some (.lst ((addN [] d.nums).map fun kv => kV kv.1)) → Q (.ref p) H'
theorem ok_numbers {n : Nat} (D : Dfn K mg "numbers" s_numbers ["told"]) (T : Txt K mg) (c_note_numbers : Cal P w K mg base CX0 n "note_numbers" ["told", "seen"] (sp_note_numbers K n)) :
    Cal P w K mg base CX0 (n + 1) "numbers" ["told"] (sp_numbers K n) := by
  have S := sc_numbers
  refine cal_of D S (fun vs H Q E h => ?_) (fun f cdv A outer s H vs Q E hr h => ?_)
  · obtain ⟨v, d, rfl, _⟩ := h
    rfl
  obtain ⟨v, d, rfl, hv, hd, hl, q⟩ := h
  refine ⟨_, (pss_cons (ps_set (i := 1) S.nd rfl (Or.inl rfl) pe_dnewK)
    (pss_cons (ps_expr (pe_cal c_note_numbers hr pass0 (pa_cons (pv 0) (pa_cons (pv 1) pa_nil))))
    (pss_one (ps_ret (pe_callTy (call_list_dK rfl) rfl T.list (by decide +kernel) (pa_cons (pv 1) pa_nil)))))), ?_⟩
  refine newO (Q := fun p H' => _) fun p H1 n1 s1 h1 => ?_
  refine ⟨_, rfl, _, rfl, v, p, d, [], rfl, hv.keep (S := No) (.same s1), hd, h1, by simpa using hl, fun H2 k2 h2 => ?_⟩
  refine ⟨_, rfl, p, _, rfl, h2, newO fun l H3 n3 s3 h3 => ?_⟩
  have sm : Same H H2 := fun b o e => k2.at (s1 b o e) (by rintro rfl; rw [n1] at e; cases e)
  exact q l H3 (sm.trans s3) (sm.free n3) h3
end
end Fw
/-! Fw3: a dict of dicts of labels (tails, wants.lacking), by bounds; note_tails. -/
namespace Fw
open PySem PySem.Spec PyProof.Rows L2
theorem nodup_len {α : Type} [DecidableEq α] : ∀ (l m : List α), l.Nodup → (∀ x ∈ l, x ∈ m) → l.length ≤ m.length
  | [], _, _, _ => Nat.zero_le _
  | x :: l, m, h, s => by
    have hx : x ∈ m := s x List.mem_cons_self
    have h1 := (List.nodup_cons.mp h)
    have ih := nodup_len l (m.erase x) h1.2 fun y hy => by
      refine (List.mem_erase_of_ne ?_).mpr (s y (List.mem_cons_of_mem _ hy))
      rintro rfl
      exact h1.1 hy
    rw [List.length_erase_of_mem hx] at ih
    have : 0 < m.length := List.length_pos_of_mem hx
    simp only [List.length_cons]
    omega
theorem valV_mem {κ : Type} [DecidableEq κ] {kvs : List (κ × V)} {k : κ} {v : V} (h : valV kvs k = some v) : (k, v) ∈ kvs := by
  unfold valV at h
  cases e : kvs.find? (fun kv => decide (kv.1 = k)) with
  | none => rw [e] at h; cases h
  | some p =>
    rw [e] at h
    have h1 := List.mem_of_find?_eq_some e
    have h2 := List.find?_some e
    have h3 : p.1 = k := by simpa using h2
    have h4 : p.2 = v := by simpa using h
    rw [← h3, ← h4]
    exact h1
theorem valV_none {κ : Type} [DecidableEq κ] {kvs : List (κ × V)} {k : κ} (h : valV kvs k = none) : k ∉ kvs.map (·.1) := by
  intro hm
  obtain ⟨p, hp, e⟩ := List.mem_map.mp hm
  unfold valV at h
  rw [Option.map_eq_none_iff, List.find?_eq_none] at h
  exact h p hp (by simpa using e)
theorem valV_of_mem {κ : Type} [DecidableEq κ] : ∀ {kvs : List (κ × V)} {k : κ} {v : V}, (kvs.map (·.1)).Nodup → (k, v) ∈ kvs → valV kvs k = some v
  | [], _, _, _, h => by cases h
  | p :: r, k, v, nd, h => by
    rw [List.map_cons, List.nodup_cons] at nd
    rcases List.mem_cons.mp h with e | e
    · rw [valV_pos (by rw [← e])]
      rw [← e]
    · rw [valV_neg]
      · exact valV_of_mem nd.2 e
      · intro q
        exact nd.1 (List.mem_map.mpr ⟨(k, v), e, q.symm⟩)
theorem nodup_snoc {α : Type} {l : List α} {x : α} (h : l.Nodup) (n : x ∉ l) : (l ++ [x]).Nodup := by
  rw [List.nodup_append]
  refine ⟨h, by simp, ?_⟩
  intro a ha b hb
  rw [List.mem_singleton] at hb
  subst hb
  rintro rfl
  exact n ha
/-- from one state to another: all but S stays, S grows by what is new -/
def WStep (S : Addr → Prop) (H : Hp) (S' : Addr → Prop) (H' : Hp) : Prop := Keep S H H' ∧ ∀ b, S' b → S b ∨ H b = none
theorem WStep.refl (S : Addr → Prop) (H : Hp) : WStep S H S H := ⟨Keep.refl _, fun _ h => .inl h⟩
theorem WStep.trans {S S1 S2 : Addr → Prop} {H H1 H2 : Hp} (a : WStep S H S1 H1) (b : WStep S1 H1 S2 H2) : WStep S H S2 H2 := by
  refine ⟨a.1.trans b.1 a.2, fun c h => ?_⟩
  rcases b.2 c h with h | h
  · exact a.2 c h
  · by_cases hs : S c
    · exact .inl hs
    · exact .inr (a.1.free h hs)
/-- what the dict of dicts may hold -/
structure Bd where
  N : Nat
  U : List Str
  Tk : Nat → Prop
  Lk : Nat → Str → Prop
/-- an inner dict: labels -/
def Inn (B : Bd) (H : Hp) (t : Nat) (a : Addr) : Prop := ∃ ls : KVs, H a = some (.dK ls) ∧ (ls.map (·.1)).Nodup ∧ ∀ e ∈ ls, ∃ x, e.1 = Sum.inr x ∧ x ∈ B.U ∧ B.Lk t x
def LkOn (B : Bd) (H : Hp) (d : Addr) (S : Addr → Prop) (kvs : KVs) : Prop := H d = some (.dK kvs) ∧ S d ∧ (kvs.map (·.1)).Nodup ∧ (kvs.map (·.2)).Nodup ∧ ∀ e ∈ kvs, ∃ (t : Nat) (a : Addr), e = (Sum.inl (t : Int), V.ref a) ∧ t < B.N ∧ B.Tk t ∧ S a ∧ a ≠ d ∧ Inn B H t a
def LkAt (B : Bd) (H : Hp) (d : Addr) (S : Addr → Prop) : Prop := (∃ kvs, LkOn B H d S kvs) ∧ ∀ b, S b → ∃ ls, H b = some (.dK ls)
def Ent (H : Hp) (d : Addr) (t : Nat) (a : Addr) : Prop := ∃ kvs : KVs, H d = some (.dK kvs) ∧ valV kvs (Sum.inl (t : Int)) = some (.ref a)
section
variable {B : Bd} {H H' : Hp} {d a : Addr} {S S' : Addr → Prop} {t : Nat} {l : Str}
theorem LkOn.len {kvs : KVs} (h : LkOn B H d S kvs) : kvs.length ≤ B.N := by
  obtain ⟨_, _, h1, _, h2⟩ := h
  have q := nodup_len (kvs.map (·.1)) ((List.range B.N).map fun (n : Nat) => (Sum.inl (n : Int) : L2.Key)) h1 fun x hx => by
    obtain ⟨e, he, rfl⟩ := List.mem_map.mp hx
    obtain ⟨t, a, rfl, ht, _⟩ := h2 e he
    exact List.mem_map.mpr ⟨t, List.mem_range.mpr ht, rfl⟩
  simpa using q
theorem Inn.len (h : Inn B H t a) : ∃ ls : KVs, H a = some (.dK ls) ∧ ls.length ≤ B.U.length := by
  obtain ⟨ls, h0, h1, h2⟩ := h
  refine ⟨ls, h0, ?_⟩
  have q := nodup_len (ls.map (·.1)) (B.U.map fun n => (Sum.inr n : L2.Key)) h1 fun x hx => by
    obtain ⟨e, he, rfl⟩ := List.mem_map.mp hx
    obtain ⟨y, e1, hy, _⟩ := h2 e he
    exact List.mem_map.mpr ⟨y, hy, e1.symm⟩
  simpa using q
theorem lk_ent (h : LkAt B H d S) (e : Ent H d t a) : S a ∧ a ≠ d ∧ B.Tk t ∧ Inn B H t a := by
  obtain ⟨⟨kvs, h0, h1, h2, h3, h4⟩, _⟩ := h
  obtain ⟨kvs', e0, e1⟩ := e
  rw [h0] at e0
  cases e0
  obtain ⟨t', a', q, _, q1, q2, q3, q4⟩ := h4 _ (valV_mem e1)
  simp only [Prod.mk.injEq, Sum.inl.injEq, V.ref.injEq] at q
  obtain ⟨q5, rfl⟩ := q
  have q6 : t = t' := by omega
  subst q6
  exact ⟨q2, q3, q1, q4⟩
theorem lk_keep {S' : Addr → Prop} (h : LkAt B H d S) (k : Keep S' H H') (n : ∀ b, S b → ¬ S' b) : LkAt B H' d S := by
  obtain ⟨⟨kvs, h0, h1, h2, h3, h4⟩, hd⟩ := h
  refine ⟨⟨kvs, k.at h0 (n _ h1), h1, h2, h3, fun e he => ?_⟩, fun b hb => (hd b hb).imp fun ls z => k.at z (n b hb)⟩
  obtain ⟨t, a, q0, q1, q2, q3, q4, ls, q5, q6⟩ := h4 e he
  exact ⟨t, a, q0, q1, q2, q3, q4, ls, k.at q5 (n _ q3), q6⟩
theorem lk_more {B' : Bd} (h : LkAt B H d S) (h1 : B.N ≤ B'.N) (h2 : ∀ x ∈ B.U, x ∈ B'.U) (h3 : ∀ t, B.Tk t → B'.Tk t) (h4 : ∀ t x, B.Lk t x → B'.Lk t x) : LkAt B' H d S := by
  obtain ⟨⟨kvs, g0, g1, g2, g3, g4⟩, hd⟩ := h
  refine ⟨⟨kvs, g0, g1, g2, g3, fun e he => ?_⟩, hd⟩
  obtain ⟨t, a, q0, q1, q2, q3, q4, ls, q5, q6, q7⟩ := g4 e he
  refine ⟨t, a, q0, by omega, h3 _ q2, q3, q4, ls, q5, q6, fun e he => ?_⟩
  obtain ⟨x, r1, r2, r3⟩ := q7 e he
  exact ⟨x, r1, h2 _ r2, h4 _ _ r3⟩
theorem ent_keep {S' : Addr → Prop} (h : Ent H d t a) (k : Keep S' H H') (n : ¬ S' d) : Ent H' d t a := by
  obtain ⟨kvs, h0, h1⟩ := h
  exact ⟨kvs, k.at h0 n, h1⟩
/-- d.setdefault(t, {}) -/
theorem lk_setd {Q : V → Hp → Prop} (h : LkAt B H d S) (ht : t < B.N) (hT : B.Tk t) (hN : B.N ≤ 100000)
    (q : ∀ S' H' a, WStep S H S' H' → LkAt B H' d S' → (∀ u b, Ent H d u b → Ent H' d u b) → Ent H' d t a → Q (.ref a) H') (p : Addr) (hp : H p = none) :
    ∃ (kvs' : List (L2.Key × V)) (k : L2.Key), (upd H p (.dK [])) d = some (.dK kvs') ∧ (V.int (t : Int)) = kV k ∧ kvs'.length < sizeLine ∧ (∀ v, valV kvs' k = some v → Q v (upd H p (.dK []))) ∧ (valV kvs' k = none → Q (.ref p) (upd (upd H p (.dK [])) d (.dK (putK kvs' k (.ref p))))) := by
  obtain ⟨⟨kvs, on⟩, hd⟩ := h
  have ln := on.len
  obtain ⟨h0, h1, h2, h3, h4⟩ := id on
  have hpd : d ≠ p := ne_of_none h0 hp
  have n0 : (upd H p (.dK [])) d = some (.dK kvs) := by rw [upd_ne hpd]; exact h0
  have kp : Keep S H (upd H p (.dK [])) := keep_new hp
  have old : ∀ {b o}, H b = some o → (upd H p (.dK [])) b = some o := fun {b o} e => by rw [upd_ne (ne_of_none e hp)]; exact e
  refine ⟨kvs, Sum.inl (t : Int), n0, rfl, sz_lt (by omega), fun v e => ?_, fun e => ?_⟩
  · have me := valV_mem e
    obtain ⟨t', a, q0, _⟩ := h4 _ me
    have hv : v = .ref a := (Prod.mk.inj q0).2
    subst hv
    refine q S _ a ⟨kp, fun _ z => .inl z⟩ ⟨⟨kvs, n0, h1, h2, h3, fun e he => ?_⟩, fun b hb => (hd b hb).imp fun ls z => old z⟩ (fun u b ⟨kv, g0, g1⟩ => ⟨kv, old g0, g1⟩) ⟨kvs, n0, e⟩
    obtain ⟨t, a, q0, q1, q2, q3, q4, ls, q5, q6⟩ := h4 e he
    exact ⟨t, a, q0, q1, q2, q3, q4, ls, old q5, q6⟩
  · have pk : putK kvs (Sum.inl (t : Int)) (.ref p) = kvs ++ [(Sum.inl (t : Int), .ref p)] := putK_new _ e
    rw [pk]
    have np : V.ref p ∉ kvs.map (·.2) := fun hm => by
      obtain ⟨e, he, q0⟩ := List.mem_map.mp hm
      obtain ⟨t, a, q1, _, _, _, _, ls, q5, _⟩ := h4 e he
      rw [q1] at q0
      cases q0
      rw [hp] at q5
      cases q5
    have kd : Keep S H (upd (upd H p (.dK [])) d (.dK (kvs ++ [(Sum.inl (t : Int), .ref p)]))) := kp.tr (keep_upd n0 rfl h1)
    have dne : ∀ {b}, b ≠ d → ∀ {o}, H b = some o → (upd (upd H p (.dK [])) d (.dK (kvs ++ [(Sum.inl (t : Int), .ref p)]))) b = some o := fun {b} hb {o} e => by rw [upd_ne hb]; exact old e
    refine q (fun b => S b ∨ b = p) _ p ⟨kd, fun b z => z.imp id fun (z : b = p) => by rw [z]; exact hp⟩ ⟨⟨_, upd_same, .inl h1, ?_, ?_, fun e he => ?_⟩, fun b hb => ?_⟩ (fun u b ⟨kv, g0, g1⟩ => ?_) ⟨_, upd_same, ?_⟩
    · rw [List.map_append]
      exact nodup_snoc h2 (valV_none e)
    · rw [List.map_append]
      exact nodup_snoc h3 np
    · rcases List.mem_append.mp he with he | he
      · obtain ⟨t, a, q0, q1, q2, q3, q4, ls, q5, q6⟩ := h4 e he
        exact ⟨t, a, q0, q1, q2, .inl q3, q4, ls, dne q4 q5, q6⟩
      · rw [List.mem_singleton] at he
        subst he
        exact ⟨t, p, rfl, ht, hT, .inr rfl, hpd.symm, [], by rw [upd_ne hpd.symm, upd_same], List.nodup_nil, fun e he => by cases he⟩
    · by_cases hbd : b = d
      · rw [hbd]
        exact ⟨_, upd_same⟩
      · rcases hb with hb | hb
        · exact (hd b hb).imp fun ls z => dne hbd z
        · rw [hb]
          exact ⟨[], by rw [upd_ne hpd.symm, upd_same]⟩
    · rw [h0] at g0
      cases g0
      refine ⟨_, upd_same, ?_⟩
      rw [valV_snoc _ _ _ _ e]
      by_cases z : (Sum.inl (u : Int) : L2.Key) = Sum.inl (t : Int)
      · rw [z, e] at g1
        cases g1
      · rw [if_neg z]
        exact g1
    · rw [valV_snoc _ _ _ _ e, if_pos rfl]
/-- d[t][l] = True -/
theorem lk_put {Q : Hp → Prop} (h : LkAt B H d S) (e : Ent H d t a) (hl : l ∈ B.U) (hL : B.Lk t l) (hU : B.U.length ≤ 1000)
    (q : ∀ H', WStep S H S H' → LkAt B H' d S → (∀ u b, Ent H d u b → Ent H' d u b) → Q H') : ∃ H4, DPut H a (.str l) (.bl true) H4 ∧ Q H4 := by
  obtain ⟨sa, ad, _, inn⟩ := lk_ent h e
  obtain ⟨ls, i0, i1, i2⟩ := id inn
  obtain ⟨ls', j0, j1⟩ := inn.len
  rw [i0] at j0
  cases j0
  refine ⟨_, DPut.k (k := Sum.inr l) i0 (sz_lt (by omega)), ?_⟩
  obtain ⟨⟨kvs, h0, h1, h2, h3, h4⟩, hd⟩ := h
  obtain ⟨kvs', e0, e1⟩ := e
  rw [h0] at e0
  cases e0
  have me := valV_mem e1
  refine q _ ⟨keep_upd i0 rfl sa, fun _ z => .inl z⟩ ⟨⟨kvs, by rw [upd_ne ad.symm]; exact h0, h1, h2, h3, fun e he => ?_⟩, fun b hb => by
    by_cases hba : b = a
    · rw [hba]
      exact ⟨_, upd_same⟩
    · rw [upd_ne hba]
      exact hd b hb⟩ fun u b ⟨kv, g0, g1⟩ => ⟨kv, by rw [upd_ne ad.symm]; exact g0, g1⟩
  obtain ⟨t', a', q0, q1, q2, q3, q4, ls', q5, q6, q7⟩ := h4 e he
  refine ⟨t', a', q0, q1, q2, q3, q4, ?_⟩
  by_cases z : a' = a
  · subst z
    rw [i0] at q5
    cases q5
    -- the same entry
    have te : t' = t := by
      have u1 : (Sum.inl (t : Int), V.ref a') ∈ kvs := me
      rw [q0] at he
      have inj : ∀ {x y : L2.Key × V}, x ∈ kvs → y ∈ kvs → x.2 = y.2 → x = y := by
        intro x y hx hy hxy
        obtain ⟨i, hi, rfl⟩ := List.mem_iff_getElem.mp hx
        obtain ⟨j, hj, rfl⟩ := List.mem_iff_getElem.mp hy
        have g : (kvs.map (·.2))[i]'(by simpa using hi) = (kvs.map (·.2))[j]'(by simpa using hj) := by simpa using hxy
        have := (List.getElem_inj h3).mp g
        subst this
        rfl
      have r := inj u1 he rfl
      have r1 := (Prod.mk.inj r).1
      have r2 : (t : Int) = t' := Sum.inl.inj r1
      omega
    subst te
    cases v : valV ls (Sum.inr l : L2.Key) with
    | some x =>
      have mm : (putK ls (Sum.inr l : L2.Key) (.bl true)).map (·.1) = ls.map (·.1) := by
        unfold putK
        rw [valV_any, v]
        simp only [Option.isSome_some, if_true, List.map_map]
        refine List.map_congr_left fun e _ => ?_
        simp only [Function.comp]
        split <;> rfl
      refine ⟨_, upd_same, by rw [mm]; exact i1, fun e he => ?_⟩
      have hk : e.1 ∈ ls.map (·.1) := by rw [← mm]; exact List.mem_map.mpr ⟨e, he, rfl⟩
      obtain ⟨e', he', ee⟩ := List.mem_map.mp hk
      rw [← ee]
      exact i2 e' he'
    | none =>
      rw [putK_new _ v]
      refine ⟨_, upd_same, ?_, fun e he => ?_⟩
      · rw [List.map_append]
        exact nodup_snoc i1 (valV_none v)
      · rcases List.mem_append.mp he with he | he
        · exact i2 e he
        · rw [List.mem_singleton] at he
          subst he
          exact ⟨l, rfl, hl, hL⟩
  · exact ⟨ls', by rw [upd_ne z]; exact q5, q6, q7⟩
theorem lk_new (h : H d = some (.dK [])) : LkAt B H d (· = d) := ⟨⟨[], h, rfl, List.nodup_nil, List.nodup_nil, fun e he => by cases he⟩, fun b hb => ⟨[], by rw [hb]; exact h⟩⟩
end
end Fw
/-! Fw4: note_tails, filled, filled_row. -/
namespace Fw
open PySem PySem.Spec PyProof.Rows L2
mutual
def Kd.bnd (B : Bd) : Kd → Prop
  | .num => True
  | .var _ => True
  | .fn a b => a.bnd B ∧ b.bnd B
  | .rc fs t => (∀ n, t = some n → n < B.N ∧ B.Tk n) ∧ bndF B t fs
def bndF (B : Bd) (t : Option Nat) : List (Str × Kd) → Prop
  | [] => True
  | (l, d) :: r => (∀ n, t = some n → l ∈ B.U ∧ B.Lk n l) ∧ d.bnd B ∧ bndF B t r
end
theorem bndF_get {B : Bd} {t : Option Nat} : ∀ {fs : List (Str × Kd)} {i : Nat} {l : Str} {d : Kd}, bndF B t fs → fs[i]? = some (l, d) → (∀ n, t = some n → l ∈ B.U ∧ B.Lk n l) ∧ d.bnd B
  | [], _, _, _, _, e => by simp at e
  | (l, d) :: r, 0, _, _, h, e => by
    simp at e
    obtain ⟨rfl, rfl⟩ := e
    exact ⟨h.1, h.2.1⟩
  | (l, d) :: r, i + 1, _, _, h, e => bndF_get (i := i) h.2.2 (by simpa using e)
abbrev s_note_tails : Stmt := top 6
theorem sc_note_tails : FnScope ["told", "seen", "word", "tail", "label", "held"] ["told", "seen"] (defScope s_note_tails) := ⟨rfl, rfl, rfl, by decide +kernel, rfl, by decide +kernel, by decide +kernel⟩
def sp_note_tails (K : PySem.W.Frag) (n : Nat) : Sp := fun vs H Q _ => ∃ (v : V) (a : Addr) (d : Kd) (B : Bd) (S : Addr → Prop), vs = [v, .ref a] ∧ IsK K H v d ∧ d.dp < n ∧ d.bnd B ∧ B.N ≤ 100000 ∧ B.U.length ≤ 1000 ∧ LkAt B H a S ∧
  ∀ S' H', WStep S H S' H' → LkAt B H' a S' → (∀ u b, Ent H a u b → Ent H' a u b) → Q .non H'
section
variable {P : Program} {w : World} {K : PySem.W.Frag} {mg : Str → Option Value} {base : Heap}
theorem no_note_tails {n : Nat} (D : Dfn K mg "note_tails" s_note_tails ["told", "seen"]) (c_note_tails : Cal P w K mg base CX0 n "note_tails" ["told", "seen"] (sp_note_tails K n)) :
    Cal P w K mg base CX0 (n + 1) "note_tails" ["told", "seen"] (sp_note_tails K (n + 1)) := by
  have S := sc_note_tails
  refine cal_of D S (fun vs H Q E h => ?_) (fun f cdv A outer s H vs Q E hr h => ?_)
  · obtain ⟨v, a, d, B, S, rfl, _⟩ := h
    rfl
  obtain ⟨v, a, d, B, S0, rfl, hv, hd, hb, hN, hU, hL, q⟩ := h
  have hu := hu_of hr
  refine ⟨_, (pss_cons (ps_set (i := 2) S.nd rfl (Or.inl rfl) (pe_ix ix_tup (pv 0) pe_int (fun _ _ => rfl)))
    (pss_one (ps_if (pt_cmpR op_eq (pv 2) pe_str (nomark _))
      (pss_cons (ps_expr (pe_cal c_note_tails hr pass0 (pa_cons (pe_ix ix_tup (pv 0) pe_int (fun _ _ => rfl)) (pa_cons (pv 1) pa_nil))))
      (pss_one (ps_expr (pe_cal c_note_tails hr pass0 (pa_cons (pe_ix ix_tup (pv 0) pe_int (fun _ _ => rfl)) (pa_cons (pv 1) pa_nil))))))
      (pss_one (ps_if (PW.pt (pw_or (pt_cmpR op_eq (pv 2) pe_str (nomark _)) (pw_or1 (pt_cmpR op_eq (pv 2) pe_str (nomark _)))))
        (pss_cons (ps_set (i := 3) S.nd rfl (Or.inl rfl) (pe_ix ix_tup (pe_ix ix_tup (pv 0) pe_int (fun _ _ => rfl)) pe_int (fun _ _ => rfl)))
        (pss_cons (ps_if (pt_cmpR op_notN (pv 3) pe_non (nomark _))
          (pss_one (ps_expr (pe_dsetd (pv 1) (pv 3) pe_dnewK ⟨rfl, rfl, rfl, rfl⟩)))
          pss_nil)
        (pss_one (ps_for PassesOwn.never rfl (pi_tup (pe_ix ix_tup (pe_ix ix_tup (pv 0) pe_int (fun _ _ => rfl)) pe_int (fun _ _ => rfl))) (pg_tup rfl (pgs_cons (pg_name (i := 4) S.nd rfl (Or.inl rfl)) (pgs_cons (pg_name (i := 5) S.nd rfl (Or.inl rfl)) pgs_nil)))
          (pss_cons (ps_expr (pe_cal c_note_tails hr pass0 (pa_cons (pv 5) (pa_cons (pv 1) pa_nil))))
          (pss_one (ps_if (pt_cmpR op_notN (pv 3) pe_non (nomark _))
            (pss_one (ps_dput hu (pe_dget hu (pv 1) (pv 3) (fun _ _ => rfl)) (pv 4) pe_bl rfl))
            pss_nil)))))))
        pss_nil))))), ?_⟩
  cases hv with
  | @num p e =>
    refine ⟨_, rfl, p, _, _, _, rfl, rfl, e, atI_nat rfl, ?_⟩
    refine ⟨_, rfl, rfl, _, rfl, iteF ?_⟩
    refine ⟨_, rfl, rfl, _, rfl, iteF ⟨_, rfl, rfl, _, rfl, iteF ?_⟩⟩
    exact q S0 H (.refl _ _) hL fun _ _ z => z
  | @var p m e =>
    refine ⟨_, rfl, p, _, _, _, rfl, rfl, e, atI_nat rfl, ?_⟩
    refine ⟨_, rfl, rfl, _, rfl, iteF ?_⟩
    refine ⟨_, rfl, rfl, _, rfl, iteF ⟨_, rfl, rfl, _, rfl, iteF ?_⟩⟩
    exact q S0 H (.refl _ _) hL fun _ _ z => z
  | @fn p x y A B' e hx hy =>
    have hd' : max A.dp B'.dp + 1 < n + 1 := hd
    have hb' : A.bnd B ∧ B'.bnd B := hb
    refine ⟨_, rfl, p, _, _, _, rfl, rfl, e, atI_nat rfl, ?_⟩
    refine ⟨_, rfl, rfl, _, rfl, iteT ?_⟩
    refine ⟨_, rfl, p, _, _, _, rfl, rfl, e, atI_nat rfl, _, rfl, x, a, A, B, S0, rfl, hx, by omega, hb'.1, hN, hU, hL, fun S1 H1 k1 L1 e1 => ?_⟩
    refine ⟨_, rfl, p, _, _, _, rfl, rfl, sqT_keep k1.1 e, atI_nat rfl, _, rfl, y, a, B', B, S1, rfl, hy.keep k1.1, by omega, hb'.2, hN, hU, L1, fun S2 H2 k2 L2 e2 => ?_⟩
    exact q S2 H2 (k1.trans k2) L2 fun u b z => e2 u b (e1 u b z)
  | @rc p r f vs fs t e1 e2 e3 e4 =>
    have hd' : dpF fs + 1 < n + 1 := hd
    have hb' : (∀ n, t = some n → n < B.N ∧ B.Tk n) ∧ bndF B t fs := hb
    obtain ⟨hb1, hb2⟩ := hb'
    refine ⟨_, rfl, p, _, _, _, rfl, rfl, e1, atI_nat rfl, ?_⟩
    refine ⟨_, rfl, rfl, _, rfl, iteF ?_⟩
    refine ⟨_, rfl, rfl, _, rfl, iteT (iteT ?_)⟩
    refine ⟨_, rfl, p, _, _, _, rfl, rfl, e1, atI_nat rfl, r, _, _, _, rfl, rfl, e2, atI_nat rfl, ?_⟩
    have loop : ∀ (S1 : Addr → Prop) (H1 : Hp), WStep S0 H S1 H1 → LkAt B H1 a S1 → (∀ u b, Ent H a u b → Ent H1 a u b) → (∀ m, t = some m → ∃ b, Ent H1 a m b) →
        tFor (iTup K (tOp (rIxT K) (tOp (rIxT K) (tVar 0) (tC (.int 1))) (tC (.int 1)))) (gTup K 2 (gCons (gName 4) (gCons (gName 5) gNil)))
          (tSeq (tDrop (tCall (sp_note_tails K n) [] E0 (tCons (tVar 5) (tCons (tVar 1) tNil)))) (tIfS (tTest (tOp (fun x y H Q => y = .non ∧ Q (.bl (!decide (x = .non))) H) (tVar 3) (tC .non))) (sDPut (tDGet (tVar 1) (tVar 3)) (tVar 4) (tC (.bl true))) tNext))
          { nx := fun _ H' => Q .non H', rt := Q } [some (.ref p), some (.ref a), some (.str "rec"), some (tV t), none, none] H1 := by
      intro S1 H1 k1 L1 n1 n2
      refine ⟨_, rfl, p, _, _, _, rfl, rfl, sqT_keep k1.1 e1, atI_nat rfl, r, _, _, _, rfl, rfl, sqT_keep k1.1 e2, atI_nat rfl, f, rfl, ⟨_, sqT_keep k1.1 e3.sqT⟩, ?_⟩
      refine for_tup (K := K) (a := f) (xs := vs) (fun i σ H' => ∃ l h S', σ = [some (.ref p), some (.ref a), some (.str "rec"), some (tV t), l, h] ∧ WStep S0 H S' H' ∧ LkAt B H' a S' ∧ (∀ u b, Ent H a u b → Ent H' a u b) ∧ (∀ m, t = some m → ∃ b, Ent H' a m b))
        ⟨_, _, S1, rfl, k1, L1, n1, n2⟩ (fun i σ H' _ ⟨_, _, _, _, k, _⟩ => sqT_keep k.1 e3.sqT) ?_ ?_
      · rintro i x σ H2 hi ⟨l, h, S2, rfl, k2, L2, m1, m2⟩
        obtain ⟨lb, kd, pp, y, g1, rfl, g2, g3⟩ := e4.get hi
        have l4 := dpF_get g1
        obtain ⟨b1, b2⟩ := bndF_get hb2 g1
        refine ⟨pp, _, rfl, sqT_keep k2.1 g2, rfl, _, _, rfl, _, _, rfl, rfl, ?_⟩
        refine ⟨_, rfl, _, rfl, y, a, kd, B, S2, rfl, g3.keep k2.1, by omega, b2, hN, hU, L2, fun S3 H3 k3 L3 n3 => ?_⟩
        refine ⟨_, rfl, rfl, _, rfl, ?_⟩
        cases t with
        | none => exact iteF ⟨_, _, S3, rfl, k2.trans k3, L3, fun u b z => n3 u b (m1 u b z), fun m z => by cases z⟩
        | some t =>
          refine iteT ?_
          obtain ⟨b, eb⟩ := m2 t rfl
          have eb3 := n3 t b eb
          obtain ⟨kv, g4, g5⟩ := id eb3
          refine ⟨_, rfl, _, rfl, a, _, rfl, .inl ⟨kv, Sum.inl (t : Int), .of g4, rfl, g5.symm⟩, _, rfl, b, ?_⟩
          obtain ⟨H4, d4, q4⟩ := lk_put (Q := fun H4 => ∃ l h S', [some (V.ref p), some (.ref a), some (.str "rec"), some (tV (some t)), some (.str lb), some y] = [some (V.ref p), some (.ref a), some (.str "rec"), some (tV (some t)), l, h] ∧ WStep S0 H S' H4 ∧ LkAt B H4 a S' ∧ (∀ u b, Ent H a u b → Ent H4 a u b) ∧ (∀ m, some t = some m → ∃ b, Ent H4 a m b))
            L3 eb3 (b1 t rfl).1 (b1 t rfl).2 hU fun H4 k4 L4 n4 => ⟨_, _, S3, rfl, (k2.trans k3).trans k4, L4, fun u b z => n4 u b (n3 u b (m1 u b z)), fun m z => by cases z; exact ⟨b, n4 _ _ eb3⟩⟩
          exact ⟨H4, rfl, d4, q4⟩
      · rintro σ H2 ⟨l, h, S2, rfl, k2, L2, m1, m2⟩
        exact q S2 H2 k2 L2 m1
    refine ⟨_, rfl, rfl, _, rfl, ?_⟩
    cases t with
    | none => exact iteF (loop S0 H (.refl _ _) hL (fun _ _ z => z) fun m z => by cases z)
    | some t =>
      refine iteT ⟨_, rfl, a, rfl, ?_, _, rfl, fun pp hp => ?_⟩
      · obtain ⟨⟨kv, g, _⟩, _⟩ := hL
        exact .inl ⟨kv, .of g⟩
      · exact lk_setd hL (hb1 t rfl).1 (hb1 t rfl).2 hN (fun S1 H1 b k1 L1 n1 e => loop S1 H1 k1 L1 n1 fun m z => by cases z; exact ⟨b, e⟩) pp hp
theorem ok_note_tails (D : Dfn K mg "note_tails" s_note_tails ["told", "seen"]) : ∀ n, Cal P w K mg base CX0 n "note_tails" ["told", "seen"] (sp_note_tails K n)
  | 0 => cal_none D fun vs H Q E ⟨_, _, _, _, _, _, _, h, _⟩ => absurd h (Nat.not_lt_zero _)
  | n + 1 => no_note_tails D (ok_note_tails D n)
end
end Fw
/-! Fw5: filled, filled_row (of kinds whose rows are shut). -/
namespace Fw
open PySem PySem.Spec PyProof.Rows L2
mutual
/-- all its rows are shut -/
def Kd.cld : Kd → Prop
  | .num => True
  | .var _ => True
  | .fn a b => a.cld ∧ b.cld
  | .rc fs t => t = none ∧ fs.length ≤ 10000 ∧ cldF fs
def cldF : List (Str × Kd) → Prop
  | [] => True
  | (_, d) :: r => d.cld ∧ cldF r
end
mutual
def Kd.sub (σ : Nat → Kd) : Kd → Kd
  | .num => .num
  | .var n => σ n
  | .fn a b => .fn (a.sub σ) (b.sub σ)
  | .rc fs t => .rc (subF σ fs) t
def subF (σ : Nat → Kd) : List (Str × Kd) → List (Str × Kd)
  | [] => []
  | (l, d) :: r => (l, d.sub σ) :: subF σ r
end
theorem cldF_get : ∀ {fs : List (Str × Kd)} {i : Nat} {l : Str} {d : Kd}, cldF fs → fs[i]? = some (l, d) → d.cld
  | [], _, _, _, _, e => by simp at e
  | (l, d) :: r, 0, _, _, h, e => by
    simp at e
    obtain ⟨rfl, rfl⟩ := e
    exact h.1
  | (l, d) :: r, i + 1, _, _, h, e => cldF_get (i := i) h.2 (by simpa using e)
theorem subF_append (σ : Nat → Kd) : ∀ (a b : List (Str × Kd)), subF σ (a ++ b) = subF σ a ++ subF σ b
  | [], _ => rfl
  | (l, d) :: r, b => by simp [subF, subF_append σ r b]
theorem subF_len (σ : Nat → Kd) : ∀ (a : List (Str × Kd)), (subF σ a).length = a.length
  | [] => rfl
  | (l, d) :: r => by simp [subF, subF_len σ r]
/-- the dict at a fills as σ says -/
def Fil (K : PySem.W.Frag) (H : Hp) (a : Addr) (σ : Nat → Kd) : Prop := ∃ kvs : KVs, H a = some (.dK kvs) ∧ ∀ m : Nat, (∃ v, valV kvs (Sum.inl (m : Int)) = some v ∧ IsK K H v (σ m)) ∨ (valV kvs (Sum.inl (m : Int)) = none ∧ σ m = .var m)
theorem Fil.keep {K : PySem.W.Frag} {H H' : Hp} {a : Addr} {σ : Nat → Kd} {S : Addr → Prop} (h : Fil K H a σ) (k : Keep S H H') (n : ¬ S a) : Fil K H' a σ := by
  obtain ⟨kvs, h0, h1⟩ := h
  refine ⟨kvs, k.at h0 n, fun m => (h1 m).imp (fun ⟨v, e, z⟩ => ⟨v, e, z.keep k⟩) id⟩
abbrev s_filled_row : Stmt := top 8
abbrev s_filled : Stmt := top 9
theorem sc_filled_row : FnScope ["row", "filling", "fields", "tail", "more", "label", "held"] ["row", "filling"] (defScope s_filled_row) := ⟨rfl, rfl, rfl, by decide +kernel, rfl, by decide +kernel, by decide +kernel⟩
theorem sc_filled : FnScope ["told", "filling", "word"] ["told", "filling"] (defScope s_filled) := ⟨rfl, rfl, rfl, by decide +kernel, rfl, by decide +kernel, by decide +kernel⟩
def sp_filled (K : PySem.W.Frag) (n : Nat) : Sp := fun vs H Q _ => ∃ (v : V) (a : Addr) (d : Kd) (σ : Nat → Kd), vs = [v, .ref a] ∧ IsK K H v d ∧ d.dp < n ∧ d.cld ∧ Fil K H a σ ∧
  ∀ v' H', Same H H' → IsK K H' v' (d.sub σ) → Q v' H'
def sp_filled_row (K : PySem.W.Frag) (n : Nat) : Sp := fun vs H Q _ => ∃ (v : V) (a : Addr) (fs : List (Str × Kd)) (σ : Nat → Kd), vs = [v, .ref a] ∧ IsR K H v fs none ∧ dpF fs < n ∧ cldF fs ∧ fs.length ≤ 10000 ∧ Fil K H a σ ∧
  ∀ v' H', Same H H' → IsR K H' v' (subF σ fs) none → Q v' H'
theorem same_keep {H H' : Hp} (s : Same H H') : Keep No H H' := .same s
section
variable {P : Program} {w : World} {K : PySem.W.Frag} {mg : Str → Option Value} {base : Heap}
theorem no_filled {n : Nat} (D : Dfn K mg "filled" s_filled ["told", "filling"]) (c_filled : Cal P w K mg base CX0 (2 * n) "filled" ["told", "filling"] (sp_filled K n)) (c_filled_row : Cal P w K mg base CX0 (2 * n + 1) "filled_row" ["row", "filling"] (sp_filled_row K n)) :
    Cal P w K mg base CX0 (2 * n + 1 + 1) "filled" ["told", "filling"] (sp_filled K (n + 1)) := by
  have S := sc_filled
  refine cal_of D S (fun vs H Q E h => ?_) (fun f cdv A outer s H vs Q E hr h => ?_)
  · obtain ⟨v, a, d, σ, rfl, _⟩ := h
    rfl
  obtain ⟨v, a, d, σ, rfl, hv, hd, hc, hF, q⟩ := h
  have hu := hu_of hr
  refine ⟨_, (pss_cons (ps_set (i := 2) S.nd rfl (Or.inl rfl) (pe_ix ix_tup (pv 0) pe_int (fun _ _ => rfl)))
    (pss_cons (ps_if (pt_cmpR op_eq (pv 2) pe_str (nomark _))
      (pss_one (ps_ret (pv 0)))
      pss_nil)
    (pss_cons (ps_if (pt_cmpR op_eq (pv 2) pe_str (nomark _))
      (pss_one (ps_ret (pe_dget2 hu (pv 1) (pe_ix ix_tup (pv 0) pe_int (fun _ _ => rfl)) (pv 0) ⟨rfl, rfl, rfl, rfl⟩)))
      pss_nil)
    (pss_cons (ps_if (pt_cmpR op_eq (pv 2) pe_str (nomark _))
      (pss_one (ps_ret (pe_tup (pa_cons pe_str (pa_cons (pe_cal c_filled (hr.mono (by omega)) pass0 (pa_cons (pe_ix ix_tup (pv 0) pe_int (fun _ _ => rfl)) (pa_cons (pv 1) pa_nil))) (pa_cons (pe_cal c_filled (hr.mono (by omega)) pass0 (pa_cons (pe_ix ix_tup (pv 0) pe_int (fun _ _ => rfl)) (pa_cons (pv 1) pa_nil))) pa_nil))))))
      pss_nil)
    (pss_one (ps_ret (pe_tup (pa_cons (pv 2) (pa_cons (pe_cal c_filled_row (hr.mono (by omega)) pass0 (pa_cons (pe_ix ix_tup (pv 0) pe_int (fun _ _ => rfl)) (pa_cons (pv 1) pa_nil))) pa_nil))))))))), ?_⟩
  cases hv with
  | @num p e =>
    refine ⟨_, rfl, p, _, _, _, rfl, rfl, e, atI_nat rfl, ?_⟩
    refine ⟨_, rfl, rfl, _, rfl, iteT ?_⟩
    exact ⟨_, rfl, q _ H (Same.refl _) (.num e)⟩
  | @var p m e =>
    refine ⟨_, rfl, p, _, _, _, rfl, rfl, e, atI_nat rfl, ?_⟩
    refine ⟨_, rfl, rfl, _, rfl, iteF ?_⟩
    refine ⟨_, rfl, rfl, _, rfl, iteT ?_⟩
    obtain ⟨kvs, h0, h1⟩ := hF
    refine ⟨_, rfl, a, rfl, .inl ⟨_, .of h0⟩, _, rfl, p, _, _, _, rfl, rfl, e, atI_nat rfl, _, rfl, valV kvs (Sum.inl (m : Int)), .inl ⟨kvs, Sum.inl (m : Int), .of h0, rfl, rfl⟩, ?_⟩
    rcases h1 m with ⟨v, g1, g2⟩ | ⟨g1, g2⟩
    · rw [g1]
      exact q _ H (Same.refl _) g2
    · rw [g1]
      refine q _ H (Same.refl _) ?_
      show IsK K H (.ref p) (σ m)
      rw [g2]
      exact .var e
  | @fn p x y A B e hx hy =>
    have hd' : max A.dp B.dp + 1 < n + 1 := hd
    have hc' : A.cld ∧ B.cld := hc
    refine ⟨_, rfl, p, _, _, _, rfl, rfl, e, atI_nat rfl, ?_⟩
    refine ⟨_, rfl, rfl, _, rfl, iteF ?_⟩
    refine ⟨_, rfl, rfl, _, rfl, iteF ?_⟩
    refine ⟨_, rfl, rfl, _, rfl, iteT ?_⟩
    refine ⟨_, rfl, p, _, _, _, rfl, rfl, e, atI_nat rfl, _, rfl, x, a, A, σ, rfl, hx, by omega, hc'.1, hF, fun v1 H1 s1 g1 => ?_⟩
    refine ⟨_, rfl, p, _, _, _, rfl, rfl, sqT_keep (same_keep s1) e, atI_nat rfl, _, rfl, y, a, B, σ, rfl, hy.keep (same_keep s1), by omega, hc'.2, hF.keep (same_keep s1) id, fun v2 H2 s2 g2 => ?_⟩
    refine ⟨(by show 3 ≤ sizeLine; decide), newO (Q := fun p H' => Q (.ref p) H') fun pp H3 n3 s3 h3 => ?_⟩
    refine q _ H3 (s1.trans (s2.trans s3)) (.fn (.of h3) ?_ ?_)
    · exact (g1.keep (same_keep s2)).keep (same_keep s3)
    · exact g2.keep (same_keep s3)
  | @rc p r f vs fs t e1 e2 e3 e4 =>
    have hd' : dpF fs + 1 < n + 1 := hd
    have hc' : t = none ∧ fs.length ≤ 10000 ∧ cldF fs := hc
    obtain ⟨rfl, hc1, hc2⟩ := hc'
    refine ⟨_, rfl, p, _, _, _, rfl, rfl, e1, atI_nat rfl, ?_⟩
    refine ⟨_, rfl, rfl, _, rfl, iteF ?_⟩
    refine ⟨_, rfl, rfl, _, rfl, iteF ?_⟩
    refine ⟨_, rfl, rfl, _, rfl, iteF ?_⟩
    refine ⟨_, rfl, _, rfl, p, _, _, _, rfl, rfl, e1, atI_nat rfl, _, rfl, .ref r, a, fs, σ, rfl, ⟨r, f, vs, rfl, e2, e3, e4⟩, by omega, hc2, hc1, hF, fun v1 H1 s1 g1 => ?_⟩
    refine ⟨(by show 2 ≤ sizeLine; decide), newO (Q := fun p H' => Q (.ref p) H') fun pp H3 n3 s3 h3 => ?_⟩
    exact q _ H3 (s1.trans s3) (isR_rec (.of h3) (g1.keep (same_keep s3)))
theorem no_filled_row {n : Nat} (D : Dfn K mg "filled_row" s_filled_row ["row", "filling"]) (T : Txt K mg) (c_filled : Cal P w K mg base CX0 (2 * n) "filled" ["told", "filling"] (sp_filled K n)) :
    Cal P w K mg base CX0 (2 * n + 1) "filled_row" ["row", "filling"] (sp_filled_row K n) := by
  have S := sc_filled_row
  refine cal_of D S (fun vs H Q E h => ?_) (fun f cdv A outer s H vs Q E hr h => ?_)
  · obtain ⟨v, a, d, σ, rfl, _⟩ := h
    rfl
  obtain ⟨v, a, fs, σ, rfl, hv, hd, hc, hl, hF, q⟩ := h
  obtain ⟨r, f, vs, rfl, e1, e2, e3⟩ := hv
  have hu := hu_of hr
  refine ⟨_, (pss_cons (ps_setLc (i := 2) (own := [("label", 5), ("held", 6)]) rfl S.nd rfl rfl (sw_true rfl rfl rfl (by decide +kernel)) (pi_tup (pe_ix ix_tup (pv 0) pe_int (fun _ _ => rfl))) (blkOk_by (own := [("label", 5), ("held", 6)]) (N := ["row", "filling", "fields", "tail", "more", "label", "held"]) (sc := defScope s_filled_row) (by decide +kernel)) (fun _ _ _ _ _ => (pg_tupK (K := K) (n := 2) rfl rfl (pgs_cons (pg_name (i := 5) S.nd rfl (Or.inl rfl)) (pgs_cons (pg_name (i := 6) S.nd rfl (Or.inl rfl)) pgs_nil)))) (fun _ _ _ _ _ => pts_nil) (fun _ _ _ _ _ => (pe_tup (pa_cons (pv 5) (pa_cons (pe_cal c_filled hr pass0 (pa_cons (pv 6) (pa_cons (pv 1) pa_nil))) pa_nil)))))
    (pss_cons (ps_set (i := 3) S.nd rfl (Or.inl rfl) (pe_ix ix_tup (pv 0) pe_int (fun _ _ => rfl)))
    (pss_cons (ps_if (PW.pt (pw_and (pt_cmpR op_notN (pv 3) pe_non (nomark _)) (pw_and1 (pt_cmp (pc_din hu (pv 3) (pv 1))))))
      pss_never
      pss_nil)
    (pss_one (ps_ret (pe_tup (pa_cons pe_str (pa_cons (pe_callTy call_tupleP rfl T.tuple (by decide +kernel) (pa_cons (pv 2) pa_nil)) (pa_cons (pv 3) pa_nil))))))))), ?_⟩
  refine ⟨_, rfl, r, _, _, _, rfl, rfl, e1, atI_nat rfl, f, rfl, ⟨_, e2.sqT⟩, fun D nD => ?_⟩
  have ln := e3.length
  refine lc_tup (K := K) (a := f) (xs := vs) (fun i H' => ∃ ps, Same H H' ∧ H' D = some (.lst ps) ∧ IsFs K H' ps (subF σ (fs.take i)))
    ⟨[], keep_new (S := No) nD |>.toSame, upd_same, .nil⟩ (fun i H' _ ⟨_, s, _⟩ => sqT_keep (same_keep s) e2.sqT) ?_ ?_
  · rintro i x H1 hi ⟨ps, s1, h1, g1⟩
    obtain ⟨lb, kd, pp, y, g2, rfl, g3, g4⟩ := e3.get hi
    have l4 := dpF_get g2
    refine ⟨pp, _, rfl, sqT_keep (same_keep s1) g3, rfl, _, _, rfl, _, _, rfl, rfl, rfl, ?_⟩
    refine tyes ⟨_, rfl, _, rfl, _, rfl, y, a, kd, σ, rfl, g4.keep (same_keep s1), by omega, cldF_get hc g2, hF.keep (same_keep s1) id, fun v1 H2 s2 g5 => ?_⟩
    refine ⟨(by show 2 ≤ sizeLine; decide), fun p2 n3 => ?_⟩
    refine newG n3 fun H3 s3 h3 => ?_
    have hD3 : H3 D = some (.lst ps) := s3 _ _ (s2 _ _ h1)
    have lp := g1.length
    rw [subF_len, List.length_take] at lp
    refine ⟨ps, hD3, sz_lt (by omega), ?_⟩
    refine mutG hD3 rfl fun H4 k4 h4 => ?_
    refine ⟨ps ++ [.ref p2], same_over (s1.trans (s2.trans s3)) k4 nD, h4, ?_⟩
    rw [take_snoc g2, subF_append]
    exact isFs_snoc (((g1.keep (same_keep s2)).keep (same_keep s3)).keep k4) (sqT_keep k4 (.of h3)) ((g5.keep (same_keep s3)).keep k4)
  · rintro H1 ⟨ps, s1, h1, g1⟩
    rw [ln, List.take_length] at g1
    refine ⟨_, rfl, r, _, _, _, rfl, rfl, sqT_keep (same_keep s1) e1, atI_nat rfl, ?_⟩
    refine ⟨_, rfl, rfl, _, rfl, iteF ?_⟩
    refine iteF ?_
    refine ⟨_, rfl, D, ps, rfl, .of h1, fun p2 o2 n2 d2 => ?_⟩
    refine newG n2 fun H2 s2 h2 => ?_
    refine ⟨_, rfl, (by show 3 ≤ sizeLine; decide), newO (Q := fun p H' => Q (.ref p) H') fun p3 H3 n3 s3 h3 => ?_⟩
    refine q _ H3 (s1.trans (s2.trans s3)) ⟨p3, p2, ps, rfl, .of h3, ⟨o2, s3 _ _ h2, d2⟩, (g1.keep (same_keep s2)).keep (same_keep s3)⟩
theorem ok_filled (D : Dfn K mg "filled" s_filled ["told", "filling"]) (D' : Dfn K mg "filled_row" s_filled_row ["row", "filling"]) (T : Txt K mg) : ∀ n, Cal P w K mg base CX0 (2 * n) "filled" ["told", "filling"] (sp_filled K n)
  | 0 => cal_none D fun vs H Q E ⟨_, _, _, _, _, _, h, _⟩ => absurd h (Nat.not_lt_zero _)
  | n + 1 => no_filled D (ok_filled D D' T n) (no_filled_row D' T (ok_filled D D' T n))
end
end Fw
/-! FwR: further rules of dicts: dict(d), dict(a tuple of pairs), d.update(e), list(d.values()), max(d, default=n). -/
namespace Fw
open PySem PySem.Spec PyProof.Rows L2
theorem paired_len {α β : Type} {F : α → β → Prop} : ∀ {xs : List α} {ys : List β}, Paired F xs ys → xs.length = ys.length
  | _, _, .nil => rfl
  | _, _, .cons _ t => by simp [paired_len t]
section
variable {X : Cx}
/-- dict(d): a copy -/
theorem call_dictC : CallR X (.type "dict") (fun xs H Q => ∃ (a : Addr) (kvs : KVs), xs = [.ref a] ∧ Rd H a (.dK kvs) ∧ ∀ p, H p = none → Q (.ref p) (upd H p (.dK kvs))) := by
  intro pz s1 σ1 H1 xs us Q1 I1 r h
  obtain ⟨a, kvs, ex, hr, q⟩ := h
  subst ex
  obtain ⟨u, eu, rx⟩ := vals1 r
  subst eu
  cases rx
  exact d_copyOf I1 hr fun p s' n J => ⟨.ref p, _, J, rfl, q p n⟩
theorem pairs_vals {pz : List (Addr × Obj)} {σ1 : L2.St} {H1 : Hp} {s1 : Shared} (I1 : Inv X pz σ1 H1 s1) : ∀ {ps : List Addr} {kvs : KVs}, Paired (fun p kv => SqT X.K H1 p [kV kv.1, kv.2]) ps kvs →
    ∃ (prs : List (L2.Key × Value)) (uks : List Value), KV kvs prs ∧ prs.length = ps.length ∧ uks.length = ps.length ∧ ∀ (j : Nat) (k : L2.Key) (v u : Value), prs[j]? = some (k, v) → uks[j]? = some u → ∃ b, ps[j]? = some b ∧ IsTup s1.heap b #[u, v] ∧ keyIs k u = true
  | _, _, .nil => ⟨[], [], .nil, rfl, rfl, fun j k v u e => by simp at e⟩
  | _, _, .cons (a := p) (b := kv) h t => by
    obtain ⟨prs, uks, r, hl, hl2, hp⟩ := pairs_vals I1 t
    obtain ⟨its, rv, ht, _⟩ := I1.tuple h
    obtain ⟨u, y, ei, ru, ry⟩ := vals2 rv
    subst ei
    refine ⟨(kv.1, y) :: prs, u :: uks, .cons ⟨rfl, ry⟩ r, by simp [hl], by simp [hl2], fun j k v w e1 e2 => ?_⟩
    cases j with
    | zero =>
      simp at e1 e2
      obtain ⟨rfl, rfl⟩ := e1
      subst e2
      exact ⟨p, rfl, ht, kV_is (P := X.prog) (w := X.w) ru⟩
    | succ j =>
      obtain ⟨b, f1, f2, f3⟩ := hp j k v w (by simpa using e1) (by simpa using e2)
      exact ⟨b, by simpa using f1, f2, f3⟩
/-- dict(t), t a tuple of pairs -/
theorem call_dictT (hcalm : X.calm = true) : CallR X (.type "dict") (fun xs H Q => ∃ (a : Addr) (ps : List Addr) (kvs : KVs), xs = [.ref a] ∧ SqP H a (ps.map V.ref) ∧ Paired (fun p kv => SqT X.K H p [kV kv.1, kv.2]) ps kvs ∧
    ∀ p, H p = none → Q (.ref p) (upd H p (.dK (mergeK [] kvs)))) := by
  intro pz s1 σ1 H1 xs us Q1 I1 r h
  obtain ⟨a, ps, kvs, ex, ⟨o, ho, hnd⟩, hp, q⟩ := h
  subst ex
  obtain ⟨u, eu, rx⟩ := vals1 r
  subst eu
  cases rx
  obtain ⟨go, hz, its, rv, ⟨o', go', hc, n, hdat⟩⟩ := I1.hok a _ ho
  rw [go] at go'
  cases go'
  have ei := refs_at rv
  subst ei
  rw [List.length_map] at hz
  obtain ⟨prs, uks, rel, hl, hl2, hpr⟩ := pairs_vals I1 hp
  have lz : (uks.zip (prs.map (·.2))).length = ps.length := by rw [List.length_zip, List.length_map]; omega
  refine PySem.call_dict_pairs (knd := mixKind X.prog X.w) (kvs := prs) (PairArg.tuple a (ps.map Value.ref).toArray (fun j => ps.getD j 0) (uks.zip (prs.map (·.2)))) (I1.ok.hd hcalm) ⟨⟨o, n, go, hc, hnd, hdat⟩, ?_, ?_⟩ ⟨by rw [lz, hl], ?_⟩ (by rw [lz]; exact hz) fun h' tk hd' hk => ?_
  · rw [lz]; simp
  · intro j k v e
    rw [List.getElem?_zip_eq_some, List.getElem?_map] at e
    obtain ⟨e1, e2⟩ := e
    cases e3 : prs[j]? with
    | none => rw [e3] at e2; cases e2
    | some p =>
      rw [e3] at e2
      obtain ⟨kk, vv⟩ := p
      have e4 : vv = v := Option.some.inj e2
      subst e4
      obtain ⟨b, f1, f2, f3⟩ := hpr j kk vv k e3 e1
      obtain ⟨ob, g1, g2, g3⟩ := f2
      have e5 : ps.getD j 0 = b := by rw [List.getD_eq_getElem?_getD, f1]; rfl
      dsimp only
      rw [e5]
      exact ⟨by simp [f1], .inl ⟨ob, g1, g2, g3⟩⟩
  · intro j k v e
    have e : (uks.zip (prs.map (·.2)))[j]? = some (k, v) := e
    rw [List.getElem?_zip_eq_some, List.getElem?_map] at e
    obtain ⟨e1, e2⟩ := e
    cases e3 : prs[j]? with
    | none => rw [e3] at e2; cases e2
    | some p =>
      rw [e3] at e2
      obtain ⟨kk, vv⟩ := p
      have e4 : vv = v := Option.some.inj e2
      subst e4
      obtain ⟨b, f1, f2, f3⟩ := hpr j kk vv k e3 e1
      exact ⟨kk, rfl, f3⟩
  · have hm : (s1.heap.objs.size == sysModules) = false := beq_eq_false_iff_ne.mpr (Nat.ne_of_gt I1.big)
    have hlen : (mergeK [] kvs).length ≤ sizeLine := by
      refine Nat.le_trans (length_mergeK kvs []) ?_
      rw [List.length_nil, Nat.zero_add, rel.length, hl]
      exact hz
    have ob : ObjOk X.prog X.w (upd H1 s1.heap.objs.size (.dK (mergeK [] kvs))) h' s1.heap.objs.size (.dK (mergeK [] kvs)) := ⟨hlen, hm, merged [] prs, KV.merge rel .nil, hd'⟩
    exact ⟨.ref s1.heap.objs.size, _, I1.laid (t' := tk) (fun b ob e => hk b ob (by simp) e) (Nat.le_refl _) ob, rfl, q _ (I1.hok.fresh (Nat.le_refl _))⟩
/-- d.update(e), e a dict -/
def tDUpd (td te : TE) : TE := fun σ H Q => td σ H fun x H1 => ∃ a, x = .ref a ∧ IsD H1 a ∧ te σ H1 fun y H2 => ∃ (b : Addr) (kvs more : KVs), y = .ref b ∧ a ≠ b ∧ H2 a = some (.dK kvs) ∧ H2 b = some (.dK more) ∧ kvs.length + more.length ≤ sizeLine ∧ Q .non (upd H2 a (.dK (mergeK kvs more)))
theorem pe_dupdate {o e : Expr} {td te : TE} {apos cpos : Pos} (ho : PE X o td) (he : PE X e te) (m : M1 X o "update" apos e cpos) : PE X (.Call (.Attribute o "update" apos) [e] [] cpos) (tDUpd td te) := by
  refine ⟨fun pz s0 σ1 H0 Q0 I0 h0 => ?_⟩
  refine wpAny_Call_method m.base m.few m.line PySem.F.plainAttrs_dict PySem.F.slot_dict_update PySem.F.type_dict_update (thn (ho.run pz s0 σ1 H0 _ I0 h0) fun u s1 ⟨x, H1, I1, rx, a, ex, d, q1⟩ => ?_)
  subst ex
  obtain rfl : u = Value.ref a := rx
  obtain ⟨t1, t2, _⟩ := isD_at I1 d
  refine ⟨t1, t2, ?_⟩
  rw [m.trees]
  refine Calls.callWith_builtin rfl (Calls.evalArgs_plain (Calls.spliced_cons (thn (he.run pz s1 σ1 H1 _ I1 q1) fun iv s2 ⟨y, H2, I2, ry, b, kvs, more, ey, hab, ha, hb, hz, q2⟩ => Calls.spliced_nil ?_)))
  subst ey
  obtain rfl : iv = Value.ref b := ry
  obtain ⟨za, na, va, ra, da⟩ := dk_of I2.hok ha
  obtain ⟨zb, nb, vb, rb, db⟩ := dk_of I2.hok hb
  refine PySem.call_meetsIn PySem.F.slot_dict_update da.typeIs PySem.F.entry_dict_update (PySem.F.args_dict_update_2 _ _) (meets_dict_update (mixKind X.prog X.w) a b hab nb) ⟨va, vb, da, db, by rw [← ra.length, ← rb.length]; exact hz, fun h' hd' _ hs => ?_⟩
  have hl : (mergeK kvs more).length ≤ sizeLine := Nat.le_trans (length_mergeK more kvs) hz
  obtain ⟨od, _, _, god, _⟩ := id hd'
  exact ⟨.non, _, I2.write (t' := s2.toks) (x := a) (e := a) (o := .dK (mergeK kvs more)) (by rw [ha]; exact True.intro) (.inl rfl) (fun c w hc e => (hs.2 c hc).trans e) ⟨od, god⟩ ⟨hl, na, _, KV.merge rb ra, hd'⟩, rfl, q2⟩
/-- list(d.values()) -/
def tLVals (te : TE) : TE := fun σ H Q => te σ H fun x H1 => ∃ (d : Addr) (kvs : KVs), x = .ref d ∧ H1 d = some (.dK kvs) ∧ ∀ p, H1 p = none → Q (.ref p) (upd H1 p (.lst (kvs.map (·.2))))
theorem pe_listVals {e : Expr} {te : TE} {p apos cpos pos : Pos} (hc : X.calm = true) (hm : X.mg "list" = none) (he : PE X e te) (hg : Gl X "list" := by rfl) (hbase : attributeBase e "values" X.env (eval e X.env) = eval e X.env := by rfl) (hline : (apos.endLine == cpos.line) = true := by rfl)
    (hs : starEach [.Call (.Attribute e "values" apos) [] [] cpos] X.env = (false, eval (.Call (.Attribute e "values" apos) [] [] cpos) X.env) :: starEach [] X.env := by rfl) :
    PE X (.Call (.Name "list" p) [.Call (.Attribute e "values" apos) [] [] cpos] [] pos) (tLVals te) := by
  refine ⟨fun pz s0 σ1 H0 Q0 I0 h0 => ?_⟩
  refine wpAny_Call_Name_kw (ld_blt I0 hg hm (u := .type "list") (by decide +kernel) ?_)
  refine PyProof.Rows.callWith_type1 ?_ hs rfl
  rw [hs]
  show wpAny _ _ (spliced ((false, eval (.Call (.Attribute e "values" apos) [] [] cpos) X.env) :: backTo pos (starEach [] X.env))) _ _ s0
  refine Calls.spliced_cons ?_
  refine wpAny_Call_method (T := "dict") (id := "dict.values") hbase rfl hline PySem.F.plainAttrs_dict PySem.F.slot_dict_values PySem.F.type_dict_values (thn (he.run pz s0 σ1 H0 _ I0 h0) fun u s1 ⟨x, H1, I1, rx, d, kvs, ex, hd, q⟩ => ?_)
  subst ex
  obtain rfl : u = Value.ref d := rx
  obtain ⟨hz, hs0, vs, kv, hdo⟩ := dk_of I1.hok hd
  obtain ⟨ep, hat⟩ := hdo.dictAt
  have lk : kvs.length = vs.length := Paired.length kv
  refine ⟨hdo.typeIs, hdo.mapOf.noDict, ?_⟩
  show wpAny _ _ (callWith cpos (.builtin "dict.values") [.ref d] [] []) _ X.xe s1
  refine method_meetsIn PySem.F.slot_dict_values PySem.F.entry_dict_values rfl (PySem.evalArgs_none ⟨rfl, hdo.typeIs, PySem.F.args_dict_values_1 _, _, meets_dict_values (mixKind X.prog X.w) d hs0, ⟨vs, hdo⟩, ?_⟩)
  refine Calls.spliced_nil ?_
  have I2 : Inv X pz σ1 H1 { s1 with heap := s1.heap.push { cls := .type "dict_values", data := .fields #[.ref d] } } := I1.kept (t' := s1.toks) fun b ob q => Heap.get?_push_of_some _ q
  refine PySem.W.kdl_call (PySem.W.kdl_values (knd := mixKind X.prog X.w) (kvs := vs) (ep := ep) (r := s1.heap.objs.size) (d := d)) (I1.ok.hd hc) ⟨⟨_, Heap.get?_push_size _ rfl, rfl, rfl⟩, hat.push _⟩ (by rw [← lk]; exact hz) fun h' tk acc' c' hk hS hacc => ?_
  have n2 : H1 (s1.heap.push { cls := .type "dict_values", data := .fields #[.ref d] }).objs.size = none := I2.hok.fresh (Nat.le_refl _)
  refine ⟨.ref _, _, I2.laid (t' := tk) (o := .lst (kvs.map (·.2))) hk (Nat.le_refl _) ⟨by rw [List.length_map]; exact hz, acc'.toList, c', ?_, ?_⟩, rfl, q _ n2⟩
  · have el : acc'.toList.length = acc'.size := by simp
    refine vals_of_at (by rw [List.length_map, el, hacc.1, lk]) fun j x w h1 h2 => ?_
    obtain ⟨k, hky⟩ := hacc.2 j w (by rw [← Array.getElem?_toList]; exact h2)
    rw [List.getElem?_map] at h1
    cases e1 : kvs[j]? with
    | none => rw [e1] at h1; cases h1
    | some kx =>
      rw [e1] at h1
      have h3 : kx.2 = x := Option.some.inj h1
      obtain ⟨kk, xx⟩ := kx
      obtain ⟨u, g1, g2⟩ := kv_get kv e1
      rw [hky] at g1
      cases g1
      rw [← h3]
      exact g2
  · rw [Array.toArray_toList]
    exact hS
/-- max(d, default=n), d a dict whose keys are ints: some int -/
theorem cr_maxD (hc : X.calm = true) : CallRK X (.builtin "max") [Str.ofString "default"] (fun xs zs H Q => ∃ (a : Addr) (kvs : KVs) (d : Int), xs = [.ref a] ∧ zs = [.int d] ∧ H a = some (.dK kvs) ∧ (∀ e ∈ kvs, ∃ i : Int, e.1 = Sum.inl i) ∧ ∀ i : Int, Q (.int i) H) := by
  intro pz s1 σ1 H1 xs zs us ws Q1 I1 r r2 h
  obtain ⟨a, kvs, d, ex, ez, ha, hk, q⟩ := h
  subst ex
  subst ez
  obtain ⟨u, eu, rx⟩ := vals1 r
  subst eu
  cases rx
  obtain ⟨z, ezz, t, et⟩ := vals1 r2
  subst ezz
  subst et
  show wpAny _ _ (call (.builtin "max") [.ref a] [(Str.ofString "default", .int d t)]) _ _ _
  obtain ⟨hz, lo, vs, kv, hdo⟩ := dk_of I1.hok ha
  obtain ⟨ep, hat⟩ := hdo.dictAt
  have hh := I1.ok.hd hc
  have hlt : a < s1.heap.objs.size := hat.lt_size
  have key : ∀ (i : Nat) (k : L2.Key) (x : Value), vs[i]? = some (k, x) → ∃ j : Int, k = Sum.inl j := fun i k x e => by
    have e1 := KV.keys kv
    have e2 : (vs.map (·.1))[i]? = some k := by rw [List.getElem?_map, e]; rfl
    rw [← e1, List.getElem?_map] at e2
    cases e3 : kvs[i]? with
    | none => rw [e3] at e2; cases e2
    | some p =>
      rw [e3] at e2
      have e4 : p.1 = k := Option.some.inj e2
      obtain ⟨j, hj⟩ := hk p (List.mem_of_getElem? e3)
      exact ⟨j, e4.symm.trans hj⟩
  have isI : ∀ (j : Int) (v : Value), (mixKind X.prog X.w).is (Sum.inl j) v = true → ∃ t, v = .int j t := fun j v e => by
    obtain ⟨i, t, e1, e2⟩ | ⟨x, t, e1, e2⟩ := keyIs_shape (k := Sum.inl j) (v := v) e
    · cases e1
      exact ⟨t, e2⟩
    · cases e1
  refine PySem.call_max_walkD (A := X.A) (wpAny_pyIter_dict lo hat ?_)
  refine ⟨s1.heap.objs.size, _, _, _, _, _, _, s1.heap, (fun i j => match (vs[i]?).map (·.1), (vs[j]?).map (·.1) with | some (Sum.inl x), some (Sum.inl y) => decide (y < x) | _, _ => false), rfl,
    (Walks.dictKeys (knd := mixKind X.prog X.w) (A := X.A.in1) hh s1.heap.objs.size a (Nat.ne_of_lt hlt) vs ep).toS, ⟨⟨_, Heap.get?_push_size _ rfl, rfl, rfl⟩, hat.push _⟩, fun b hb => ?_, fun b o e hb => ?_, fun b o e => Heap.get?_push_of_some _ e, fun _ s' m => ?_, fun _ => ⟨?_, fun v s' hP m => ?_⟩⟩
  · rw [Heap.size_push]
    rcases List.mem_cons.mp hb with e | hb
    · rw [e]; exact Nat.lt_succ_self _
    · rw [List.mem_singleton.mp hb]; exact Nat.lt_succ_of_lt hlt
  · simp at hb
    subst hb
    exact absurd (Heap.lt_size e) (Nat.lt_irrefl _)
  · obtain ⟨h', tk, rfl, hk'⟩ := PySem.W.moved_old (s := s1) rfl rfl m
    exact ⟨.int d, H1, I1.kept hk', ⟨_, rfl⟩, q d⟩
  · intro i j vi vj s Q E _ h1 h2 hQ
    obtain ⟨k1, x1, e1, g1⟩ := h1
    obtain ⟨k2, x2, e2, g2⟩ := h2
    obtain ⟨j1, rfl⟩ := key _ _ _ e1
    obtain ⟨j2, rfl⟩ := key _ _ _ e2
    obtain ⟨t1, rfl⟩ := isI _ _ g1
    obtain ⟨t2, rfl⟩ := isI _ _ g2
    show wpAny _ _ (compareOp .Gt (.int j1 t1) (.int j2 t2)) _ _ _
    refine gt_int ?_
    dsimp only at hQ
    rw [e1, e2] at hQ
    exact hQ
  · obtain ⟨k1, x1, e1, g1⟩ := hP
    obtain ⟨j1, rfl⟩ := key _ _ _ e1
    obtain ⟨t1, rfl⟩ := isI _ _ g1
    obtain ⟨h', tk, rfl, hk'⟩ := PySem.W.moved_old (s := s1) rfl rfl m
    exact ⟨.int j1, H1, I1.kept hk', ⟨_, rfl⟩, q j1⟩
end
end Fw
/-! FwS: sorted of lists of pairs (text, object) with texts apart, of pairs (int, text). -/
namespace Fw
open PySem PySem.Spec PyProof.Rows L2
/-- a tuple (text x, object b) -/
def IsSO (h : Heap) (v : Value) (x : Str) (b : Addr) : Prop := ∃ a o t n, v = .ref a ∧ h.get? a = some o ∧ o.cls = .type "tuple" ∧ o.data = .seq #[.str x t, .ref b] n
/-- a tuple (int x, text y) -/
def IsIS (h : Heap) (v : Value) (x : Int) (y : Str) : Prop := ∃ a o t u n, v = .ref a ∧ h.get? a = some o ∧ o.cls = .type "tuple" ∧ o.data = .seq #[.int x t, .str y u] n
theorem IsSO.keeps {h h' : Heap} {v : Value} {x : Str} {b : Addr} (p : IsSO h v x b) (k : ∀ b o, h.get? b = some o → o.cls = .type "tuple" → h'.get? b = some o) : IsSO h' v x b := by
  obtain ⟨a, o, t, n, e, ho, hc, hd⟩ := p
  exact ⟨a, o, t, n, e, k _ _ ho hc, hc, hd⟩
theorem IsIS.keeps {h h' : Heap} {v : Value} {x : Int} {y : Str} (p : IsIS h v x y) (k : ∀ b o, h.get? b = some o → o.cls = .type "tuple" → h'.get? b = some o) : IsIS h' v x y := by
  obtain ⟨a, o, t, u, n, e, ho, hc, hd⟩ := p
  exact ⟨a, o, t, u, n, e, k _ _ ho hc, hc, hd⟩
/-- texts by their signs -/
abbrev ltC (x y : Str) : Bool := decide (x.cps.toList < y.cps.toList)
theorem list_tri (a b : List Nat) : ¬ a < b ↔ b ≤ a := List.not_lt
theorem swo_by {α : Type} (f : α → List Nat) : SrtO.Swo (fun x y => decide (f x < f y)) := by
  refine ⟨fun x y h => ?_, fun x y z h1 h2 => ?_⟩
  · have h := of_decide_eq_true h
    exact decide_eq_false (fun q => List.lt_irrefl (f x) (List.lt_trans h q))
  · have h1 := of_decide_eq_false h1
    have h2 := of_decide_eq_false h2
    rw [List.not_lt] at h1 h2
    refine decide_eq_false ?_
    rw [List.not_lt]
    exact List.le_trans h1 h2
theorem swo_lexIS {α : Type} (g : α → Int) (f : α → List Nat) : SrtO.Swo (fun x y => if g x = g y then decide (f x < f y) else decide (g x < g y)) := by
  have O := swo_by f
  refine ⟨fun x y h => ?_, fun x y z h1 h2 => ?_⟩
  · by_cases e : g x = g y
    · rw [if_pos e] at h
      rw [if_pos e.symm]
      exact O.asym x y h
    · rw [if_neg e] at h
      have h := of_decide_eq_true h
      rw [if_neg (fun q => e q.symm)]
      exact decide_eq_false (by omega)
  · by_cases e1 : g y = g x
    · rw [if_pos e1] at h1
      by_cases e2 : g z = g y
      · rw [if_pos e2] at h2
        rw [if_pos (e2.trans e1)]
        exact O.tr x y z h1 h2
      · rw [if_neg e2] at h2
        have h2 := of_decide_eq_false h2
        rw [if_neg (by omega)]
        exact decide_eq_false (by omega)
    · rw [if_neg e1] at h1
      have h1 := of_decide_eq_false h1
      by_cases e2 : g z = g y
      · rw [if_neg (by omega)]
        exact decide_eq_false (by omega)
      · rw [if_neg e2] at h2
        have h2 := of_decide_eq_false h2
        rw [if_neg (by omega)]
        exact decide_eq_false (by omega)
section
variable {prog : Program} {w : World} {A : Around} {E : Value → Shared → Prop} {s : Shared}
theorem eqBool_selfR {a : Addr} {Q : Bool → Shared → Prop} (h : Q true s) : wpAny (model prog w) A (eqBool (.ref a) (.ref a)) Q E s := by
  unfold eqBool
  refine wpAny_holding ?_
  rw [if_pos (by simp)]
  exact wpAny_bind (wpAny_rule (wpAny_pure h))
theorem so_cmp {vs : List Value} {k : Value → Str} {m : Value → Addr} (hp : ∀ v ∈ vs, IsSO s.heap v (k v) (m v)) (inj : ∀ v ∈ vs, ∀ u ∈ vs, k v = k u → v = u) :
    SrtO.Cmp prog w A s (tuples' true) (fun p => p.1 ∈ vs) (SrtO.lt2 fun v u => ltC (k v) (k u)) := by
  intro p q hm hm'
  have h1 := hp _ hm
  have h2 := hp _ hm'
  have h3 := inj _ hm _ hm'
  show wpAny (model prog w) A (keyLt' (tuples' true) p.1 q.1) (fun r s' => s' = s ∧ r = ltC (k p.1) (k q.1)) (fun _ _ => False) s
  have h4 : k p.1 = k q.1 → m p.1 = m q.1 := fun e => by rw [h3 e]
  generalize k p.1 = x at h1 h4 ⊢
  generalize m p.1 = y at h1 h4 ⊢
  generalize k q.1 = x' at h2 h4 ⊢
  generalize m q.1 = y' at h2 h4 ⊢
  obtain ⟨a, o, t, n, e, ho, hc, hd⟩ := h1
  obtain ⟨a', o', t', n', e', ho', hc', hd'⟩ := h2
  rw [e, e']
  refine PySem.W.kat_lt ho hd ho' hd' ?_
  show PySem.W.KatLex prog w A true (decide (2 < 2)) _ [(.str x t, .str x' t'), (.ref y, .ref y')] 0 s
  refine PySem.W.kat_cons (SeqAt.EqAt.str_str x t x' t' prog w _ _ ?_)
  refine PySem.W.kat_go (fun e1 => ?_) (fun e1 => ?_)
  · have ex : x = x' := by simpa using e1
    have ey := h4 ex
    subst ey
    refine PySem.W.kat_yes (PySem.W.kat_cons (eqBool_selfR (PySem.W.kat_yes (PySem.W.kat_nil ⟨rfl, ?_⟩))))
    rw [ex]
    exact (decide_eq_false (List.lt_irrefl _)).symm
  · exact PySem.W.kat_no (oneLt_any_str ⟨rfl, rfl⟩)
theorem so_firsts {h : Heap} {k : Value → Str} {m : Value → Addr} : ∀ {vs : List Value}, (∀ v ∈ vs, IsSO h v (k v) (m v)) → ∃ fs : List Value, PySem.W.KatTups h vs fs ∧ fs.length = vs.length ∧ ∀ f ∈ fs, ∃ x t, f = Value.str x t
  | [], _ => ⟨[], PySem.W.KatTups.nil, rfl, fun _ hm => by simp at hm⟩
  | v :: vs, hp => by
    obtain ⟨fs, h1, h2, h3⟩ := so_firsts (vs := vs) fun v' hm => hp v' (List.mem_cons_of_mem _ hm)
    obtain ⟨a, o, t, n, e, ho, hc, hd⟩ := hp v List.mem_cons_self
    rw [e]
    refine ⟨.str (k v) t :: fs, PySem.W.KatTups.cons ho hc hd rfl h1, by simp [h2], fun f hm => ?_⟩
    rcases List.mem_cons.mp hm with rfl | hm
    · exact ⟨_, t, rfl⟩
    · exact h3 f hm
theorem so_sortable {a : Addr} {vs : List Value} {k : Value → Str} {m : Value → Addr} (h0 : 0 < vs.length) (hp : ∀ v ∈ vs, IsSO s.heap v (k v) (m v)) (inj : ∀ v ∈ vs, ∀ u ∈ vs, k v = k u → v = u) (ha : ∀ o, s.heap.get? a = some o → o.cls ≠ .type "tuple") :
    SrtO.SortableO prog w A s a vs fun v u => ltC (k v) (k u) := by
  intro h' keep
  have hp' : ∀ v ∈ vs, IsSO h' v (k v) (m v) := fun v hm => (hp v hm).keeps fun b o e c => keep b o (fun z => by subst z; exact ha o e c) e
  obtain ⟨fs, h1, h2, h3⟩ := so_firsts hp'
  refine ⟨tuples' true, fun Q E hq => ?_, so_cmp hp' inj⟩
  refine PySem.W.kat_kind (T := .type "str") h1 (by omega) (fun f hm => ?_) (by rfl) ?_
  · obtain ⟨x, t, rfl⟩ := h3 f hm
    exact PySem.W.Looks.now
  · have e : (Value.type "str" != Value.type "tuple") = true := by decide +kernel
    rw [e]
    exact hq
theorem is_cmp {vs : List Value} {k : Value → Int} {m : Value → Str} (hp : ∀ v ∈ vs, IsIS s.heap v (k v) (m v)) :
    SrtO.Cmp prog w A s (tuples' true) (fun p => p.1 ∈ vs) (SrtO.lt2 fun v u => if k v = k u then decide ((m v).cps.toList < (m u).cps.toList) else decide (k v < k u)) := by
  intro p q hm hm'
  have h1 := hp _ hm
  have h2 := hp _ hm'
  show wpAny (model prog w) A (keyLt' (tuples' true) p.1 q.1) (fun r s' => s' = s ∧ r = (if k p.1 = k q.1 then decide ((m p.1).cps.toList < (m q.1).cps.toList) else decide (k p.1 < k q.1))) (fun _ _ => False) s
  generalize k p.1 = x at h1 ⊢
  generalize m p.1 = y at h1 ⊢
  generalize k q.1 = x' at h2 ⊢
  generalize m q.1 = y' at h2 ⊢
  obtain ⟨a, o, t, u, n, e, ho, hc, hd⟩ := h1
  obtain ⟨a', o', t', u', n', e', ho', hc', hd'⟩ := h2
  rw [e, e']
  refine PySem.W.kat_lt ho hd ho' hd' ?_
  show PySem.W.KatLex prog w A true (decide (2 < 2)) _ [(.int x t, .int x' t'), (.str y u, .str y' u')] 0 s
  refine PySem.W.kat_cons (SeqAt.EqAt.int_int x t x' t' prog w _ _ ?_)
  refine PySem.W.kat_go (fun e1 => ?_) (fun e1 => ?_)
  · have ex : x = x' := by simpa using e1
    refine PySem.W.kat_yes (PySem.W.kat_cons (SeqAt.EqAt.str_str y u y' u' prog w _ _ ?_))
    refine PySem.W.kat_go (fun e2 => ?_) (fun e2 => ?_)
    · have ey : y = y' := by simpa using e2
      refine PySem.W.kat_yes (PySem.W.kat_nil ⟨rfl, ?_⟩)
      rw [if_pos ex, ey]
      exact (decide_eq_false (List.lt_irrefl _)).symm
    · refine PySem.W.kat_no (oneLt_any_str ⟨rfl, ?_⟩)
      rw [if_pos ex]
  · have ex : ¬ x = x' := by simpa using e1
    refine PySem.W.kat_no (oneLt_any_int ⟨rfl, ?_⟩)
    rw [if_neg ex]
theorem is_firsts {h : Heap} {k : Value → Int} {m : Value → Str} : ∀ {vs : List Value}, (∀ v ∈ vs, IsIS h v (k v) (m v)) → ∃ fs : List Value, PySem.W.KatTups h vs fs ∧ fs.length = vs.length ∧ ∀ f ∈ fs, ∃ x t, f = Value.int x t
  | [], _ => ⟨[], PySem.W.KatTups.nil, rfl, fun _ hm => by simp at hm⟩
  | v :: vs, hp => by
    obtain ⟨fs, h1, h2, h3⟩ := is_firsts (vs := vs) fun v' hm => hp v' (List.mem_cons_of_mem _ hm)
    obtain ⟨a, o, t, u, n, e, ho, hc, hd⟩ := hp v List.mem_cons_self
    rw [e]
    refine ⟨.int (k v) t :: fs, PySem.W.KatTups.cons ho hc hd rfl h1, by simp [h2], fun f hm => ?_⟩
    rcases List.mem_cons.mp hm with rfl | hm
    · exact ⟨_, t, rfl⟩
    · exact h3 f hm
theorem is_sortable {a : Addr} {vs : List Value} {k : Value → Int} {m : Value → Str} (h0 : 0 < vs.length) (hp : ∀ v ∈ vs, IsIS s.heap v (k v) (m v)) (ha : ∀ o, s.heap.get? a = some o → o.cls ≠ .type "tuple") :
    SrtO.SortableO prog w A s a vs fun v u => if k v = k u then decide ((m v).cps.toList < (m u).cps.toList) else decide (k v < k u) := by
  intro h' keep
  have hp' : ∀ v ∈ vs, IsIS h' v (k v) (m v) := fun v hm => (hp v hm).keeps fun b o e c => keep b o (fun z => by subst z; exact ha o e c) e
  obtain ⟨fs, h1, h2, h3⟩ := is_firsts hp'
  refine ⟨tuples' true, fun Q E hq => ?_, is_cmp hp'⟩
  refine PySem.W.kat_kind (T := .type "int") h1 (by omega) (fun f hm => ?_) (by rfl) ?_
  · obtain ⟨x, t, rfl⟩ := h3 f hm
    exact PySem.W.Looks.now
  · have e : (Value.type "int" != Value.type "tuple") = true := by decide +kernel
    rw [e]
    exact hq
end
section
variable {X : Cx}
/-- sorted(xs), xs a list of pairs (text, object), the texts apart -/
theorem cr_sortedSO : CallR X (.builtin "sorted") (fun us H Q => ∃ (a : Addr) (xs : List V) (k : V → Str), us = [V.ref a] ∧ SqL X.K H a xs ∧ (∀ x ∈ xs, ∃ t b, x = V.ref t ∧ SqT X.K H t [.str (k x), .ref b]) ∧ (xs.map k).Nodup ∧
    ∀ ys p, ys.Perm xs → ys.Pairwise (fun x y => (k x).cps.toList < (k y).cps.toList) → H p = none → Q (.ref p) (upd H p (.lst ys))) := by
  intro pz s1 σ1 H1 xs us Q1 I1 r h
  obtain ⟨a, xs, k, ex, hs, hx, nd, q⟩ := h
  subst ex
  obtain ⟨its, rv, hl, hz⟩ := I1.list hs
  obtain ⟨u, eu, ru⟩ := vals1 r
  subst eu
  obtain rfl : u = Value.ref a := ru
  obtain ⟨e1, e2⟩ := refs_back rv fun x m => by
    obtain ⟨t, b, e, _⟩ := hx x m
    exact ⟨t, e⟩
  have inj : ∀ x ∈ xs, ∀ y ∈ xs, k x = k y → x = y := by
    intro x hx y hy e
    obtain ⟨i, hi, rfl⟩ := List.mem_iff_getElem.mp hx
    obtain ⟨j, hj, rfl⟩ := List.mem_iff_getElem.mp hy
    have g : (xs.map k)[i]'(by simpa using hi) = (xs.map k)[j]'(by simpa using hj) := by simpa using e
    have := (List.getElem_inj nd).mp g
    subst this
    rfl
  have mem : ∀ v ∈ its, backV v ∈ xs := fun v hv => by rw [e1]; exact List.mem_map.mpr ⟨_, hv, rfl⟩
  have sec : ∃ m : Value → Addr, ∀ v ∈ its, IsSO s1.heap v (k (backV v)) (m v) := by
    refine Classical.skolem (p := fun v b => v ∈ its → IsSO s1.heap v (k (backV v)) b).mp fun v => ?_
    by_cases hv : v ∈ its
    · obtain ⟨t, rfl⟩ := e2 v hv
      obtain ⟨t', b, e, ht⟩ := hx _ (mem _ hv)
      cases e
      obtain ⟨its2, r2, ⟨o, ho, hc, n, hd⟩, _⟩ := I1.tuple ht
      obtain ⟨u1, u2, eu, ri, rj⟩ := vals2 r2
      subst eu
      obtain ⟨t1, rfl⟩ := ri
      cases rj
      exact ⟨b, fun _ => ⟨t, o, t1, n, rfl, ho, hc, hd⟩⟩
    · exact ⟨0, fun h => absurd h hv⟩
  obtain ⟨m, hm⟩ := sec
  refine SrtO.sorted_ord (ltv := fun v u => ltC (k (backV v)) (k (backV u))) (swo_by fun v => (k (backV v)).cps.toList) hl.isList (by rw [← rv.length]; exact hz) (fun h2 h₁ a ha kk => ?_) fun out hs hb => ?_
  · refine so_sortable (s := { s1 with heap := h₁ }) (k := fun v => k (backV v)) (m := m) (by omega) (fun v hv => (hm v hv).keeps fun b o e _ => (kk b o e).2) (fun v hv u hu e => ?_) fun o e => ?_
    · have z := inj _ (mem v hv) _ (mem u hu) e
      obtain ⟨a1, rfl⟩ := e2 v hv
      obtain ⟨a2, rfl⟩ := e2 u hu
      cases z
      rfl
    · have e' : some o = some (seqObj "list" its.toArray 0) := e.symm.trans ha
      cases e'
      intro c
      exact absurd (Value.type.inj c) (by decide)
  · have h3 : ∀ u ∈ out, ∃ a, u = Value.ref a := fun u hu => e2 u (hb.perm.mem_iff.mp hu)
    have pm : (out.map backV).Perm xs := by
      rw [e1]
      exact hb.perm.map _
    have kp : ∀ b o, s1.heap.get? b = some o → (sortedAll s1.heap its out.toArray).get? b = some o := fun b o e => sortedAll_old e
    obtain ⟨n, hn⟩ := sortedAll_at s1.heap its out.toArray
    have sd : (out.map backV).Pairwise (fun x y => (k x).cps.toList < (k y).cps.toList) := by
      have ndo : ((out.map backV).map k).Nodup := (pm.map k).nodup_iff.mpr nd
      have s0 : ((out.map backV).map k).Pairwise (fun x y => x.cps.toList ≤ y.cps.toList) := by
        rw [List.map_map, List.pairwise_map]
        refine List.Pairwise.imp (fun {x y} h => ?_) hs
        have h := of_decide_eq_false h
        exact List.not_lt.mp h
      have s2 : ((out.map backV).map k).Pairwise (fun x y => x.cps.toList < y.cps.toList) := by
        refine List.Pairwise.imp₂ (fun {x y} h1 h2 => ?_) s0 ndo
        have ne : x.cps.toList ≠ y.cps.toList := fun e => h2 (by
          obtain ⟨⟨a⟩⟩ := x
          obtain ⟨⟨b⟩⟩ := y
          simp only at e
          subst e
          rfl)
        rcases Classical.em (x.cps.toList < y.cps.toList) with z | z
        · exact z
        · exact absurd (List.le_antisymm h1 (List.not_lt.mp z)) ne
      rw [List.pairwise_map] at s2
      exact s2
    have ln : (out.map backV).length ≤ sizeLine := by rw [pm.length_eq]; exact hz
    exact ⟨.ref _, _, I1.laid (t' := s1.toks) (o := .lst (out.map backV)) kp (Nat.le_succ _) ⟨ln, out, n, vals_back h3, hn⟩, rfl, q _ _ pm sd (I1.hok.fresh (Nat.le_succ _))⟩
/-- sorted(xs), xs a list of pairs (int, text): the same ones -/
theorem cr_sortedIS : CallR X (.builtin "sorted") (fun us H Q => ∃ (a : Addr) (xs : List V), us = [V.ref a] ∧ SqL X.K H a xs ∧ (∀ x ∈ xs, ∃ t i y, x = V.ref t ∧ SqT X.K H t [.int i, .str y]) ∧
    ∀ ys p, ys.Perm xs → H p = none → Q (.ref p) (upd H p (.lst ys))) := by
  intro pz s1 σ1 H1 xs us Q1 I1 r h
  obtain ⟨a, xs, ex, hs, hx, q⟩ := h
  subst ex
  obtain ⟨its, rv, hl, hz⟩ := I1.list hs
  obtain ⟨u, eu, ru⟩ := vals1 r
  subst eu
  obtain rfl : u = Value.ref a := ru
  obtain ⟨e1, e2⟩ := refs_back rv fun x m => by
    obtain ⟨t, i, y, e, _⟩ := hx x m
    exact ⟨t, e⟩
  have mem : ∀ v ∈ its, backV v ∈ xs := fun v hv => by rw [e1]; exact List.mem_map.mpr ⟨_, hv, rfl⟩
  have sec : ∃ m : Value → Int × Str, ∀ v ∈ its, IsIS s1.heap v (m v).1 (m v).2 := by
    refine Classical.skolem (p := fun v (b : Int × Str) => v ∈ its → IsIS s1.heap v b.1 b.2).mp fun v => ?_
    by_cases hv : v ∈ its
    · obtain ⟨t, rfl⟩ := e2 v hv
      obtain ⟨t', i, y, e, ht⟩ := hx _ (mem _ hv)
      cases e
      obtain ⟨its2, r2, ⟨o, ho, hc, n, hd⟩, _⟩ := I1.tuple ht
      obtain ⟨u1, u2, eu, ri, rj⟩ := vals2 r2
      subst eu
      obtain ⟨t1, rfl⟩ := ri
      obtain ⟨t2, rfl⟩ := rj
      exact ⟨(i, y), fun _ => ⟨t, o, t1, t2, n, rfl, ho, hc, hd⟩⟩
    · exact ⟨(0, Str.empty), fun h => absurd h hv⟩
  obtain ⟨m, hm⟩ := sec
  refine SrtO.sorted_ord (swo_lexIS (fun v => (m v).1) fun v => (m v).2.cps.toList) hl.isList (by rw [← rv.length]; exact hz) (fun h2 h₁ a ha kk => ?_) fun out hs hb => ?_
  · refine is_sortable (s := { s1 with heap := h₁ }) (k := fun v => (m v).1) (m := fun v => (m v).2) (by omega) (fun v hv => (hm v hv).keeps fun b o e _ => (kk b o e).2) fun o e => ?_
    have e' : some o = some (seqObj "list" its.toArray 0) := e.symm.trans ha
    cases e'
    intro c
    exact absurd (Value.type.inj c) (by decide)
  · have h3 : ∀ u ∈ out, ∃ a, u = Value.ref a := fun u hu => e2 u (hb.perm.mem_iff.mp hu)
    have pm : (out.map backV).Perm xs := by
      rw [e1]
      exact hb.perm.map _
    have kp : ∀ b o, s1.heap.get? b = some o → (sortedAll s1.heap its out.toArray).get? b = some o := fun b o e => sortedAll_old e
    obtain ⟨n, hn⟩ := sortedAll_at s1.heap its out.toArray
    have ln : (out.map backV).length ≤ sizeLine := by rw [pm.length_eq]; exact hz
    exact ⟨.ref _, _, I1.laid (t' := s1.toks) (o := .lst (out.map backV)) kp (Nat.le_succ _) ⟨ln, out, n, vals_back h3, hn⟩, rfl, q _ _ pm (I1.hok.fresh (Nat.le_succ _))⟩
end
end Fw
/-! FwK: sorted(d.items(), key=label_of) of a dict of one entry or none. -/
namespace Fw
open PySem PySem.Spec PyProof.Rows L2
abbrev s_label_of : Stmt := top 7
theorem sc_label_of : FnScope ["field"] ["field"] (defScope s_label_of) := ⟨rfl, rfl, rfl, by decide +kernel, rfl, by decide +kernel, by decide +kernel⟩
section
variable {P : Program} {w : World} {K : PySem.W.Frag} {mg : Str → Option Value} {A : Around} {s : Shared}
/-- label_of, called on a tuple whose first is a text: that text, all that stood stands -/
theorem lab_call {f : Addr} {fd : FuncData} {a : Addr} {o : Obj} {l : Str} {t : Tok} {y : Value} {n : Nat} (F : Fun K "label_of" "label_of" s_label_of f fd) (KX : K.In s.heap) (hlim : s.heap.NoLimit) (hroom : A.depth < recursionLimit)
    (ho : s.heap.get? a = some o) (hc : o.cls = .type "tuple") (hd : o.data = .seq #[.str l t, y] n) :
    wpAny (model P w) A (call (.ref f) [.ref a]) (PySem.W.KeyPure (.str l) s) (fun _ _ => False) s := by
  obtain ⟨oc, od, kV, doc, pm, an, cdv, ct, osl, rfl, lk, hcd⟩ := F.ex
  refine wpAny_call (Att.call_fn (binds := [("field", .ref a)]) KX hlim lk hcd hroom (BindsTo.of_eq rfl) rfl (fun s₁ IC => ?_) rfl rfl rfl)
  obtain ⟨h₁, tk₁, rfl⟩ := IC.toInCall.same
  have k : ∀ b o, s.heap.get? b = some o → h₁.get? b = some o := IC.toInCall.keep
  have hn := IC.toInCall.ns
  show wpAny _ _ (execs _ _) _ _ _
  refine wpAny_execs_cons (wpAny_Return_some (Subscript_ (wpAny_Name (wpAny_loadName_local rfl rfl hn (v := .ref a) (by with_unfolding_all rfl) ?_) (by decide))))
  refine wpAny_Constant_int ?_
  have pl : IsTup h₁ a #[.str l t, y] := ⟨o, k _ _ ho, hc, n, hd⟩
  refine subscriptTail_builtinR (x := .str l t) (s := { s with heap := h₁, toks := tk₁ + 1 }) pl.typeIs slot_tuple_getitem.lookup (getItem_tuple (j := 0) pl (by decide) (by decide) rfl rfl ⟨rfl, ?_⟩) rfl
  exact ⟨h₁, _, rfl, k, Reads.str l t⟩
end
section
variable {X : Cx} {e : Expr} {te : TE} {p apos cpos pos p2 kp : Pos}
/-- sorted(e.items(), key=label_of), one entry or none -/
def tSrtIt (te : TE) : TE := fun σ H Q => te σ H fun x H1 => ∃ (d : Addr) (kvs : KVs), x = .ref d ∧ H1 d = some (.dK kvs) ∧ ((kvs = [] ∧ ∀ q, H1 q = none → Q (.ref q) (upd H1 q (.lst []))) ∨
  ∃ l v, kvs = [(Sum.inr l, v)] ∧ ∀ (t q : Addr), H1 t = none → H1 q = none → t ≠ q → Q (.ref q) (upd (upd H1 t (.tup [.str l, v])) q (.lst [.ref t])))
theorem pe_sortedIt {f : Addr} {fd : FuncData} (hc : X.calm = true) (hm : X.mg "sorted" = none) (F : Fun X.K "label_of" "label_of" s_label_of f fd) (mgf : X.mg "label_of" = some (.ref f)) (hr : X.A.depth + 2 < recursionLimit) (hu : X.A.units + 64 < cLine) (he : PE X e te) (hg : Gl X "sorted" := by rfl) (hgf : Gl X "label_of" := by rfl)
    (hbase : attributeBase e "items" X.env (eval e X.env) = eval e X.env := by rfl) (hline : (apos.endLine == cpos.line) = true := by rfl)
    (hs : backTo pos (starEach [.Call (.Attribute e "items" apos) [] [] cpos] X.env) = (false, eval (.Call (.Attribute e "items" apos) [] [] cpos) X.env) :: backTo pos (starEach [] X.env) := by rfl) (hpl : (backTo pos (starEach [.Call (.Attribute e "items" apos) [] [] cpos] X.env)).any (·.1) = false := by rfl)
    (hall : (backToKw pos (keywordEach [⟨some "key", .Name "label_of" p2, kp⟩] X.env)).all (·.1.isSome) = true := by rfl) (hnone : (backToKw pos (keywordEach [⟨some "key", .Name "label_of" p2, kp⟩] X.env)).any (·.1.isNone) = false := by rfl) (hks : (backToKw pos (keywordEach [⟨some "key", .Name "label_of" p2, kp⟩] X.env)).filterMap (·.1) = [Str.ofString "key"] := by rfl) :
    PE X (.Call (.Name "sorted" p) [.Call (.Attribute e "items" apos) [] [] cpos] [⟨some "key", .Name "label_of" p2, kp⟩] pos) (tSrtIt te) := by
  refine ⟨fun pz s0 σ1 H0 Q0 I0 h0 => ?_⟩
  refine wpAny_Call_Name_kw (ld_blt I0 hg hm (u := .builtin "sorted") (by decide +kernel) ?_)
  refine PyProof.Rows.callWith_kw ?_ hs hpl hall hnone
  rw [hs]
  refine Calls.spliced_cons ?_
  refine wpAny_Call_method (T := "dict") (id := "dict.items") hbase rfl hline PySem.F.plainAttrs_dict PySem.F.slot_dict_items PySem.F.type_dict_items (thn (he.run pz s0 σ1 H0 _ I0 h0) fun u s1 ⟨x, H1, I1, rx, d, kvs, ex, hd, q⟩ => ?_)
  subst ex
  obtain rfl : u = Value.ref d := rx
  obtain ⟨hz, hs0, vs, kv, hdo⟩ := dk_of I1.hok hd
  obtain ⟨ep, hat⟩ := hdo.dictAt
  have lk : kvs.length = vs.length := Paired.length kv
  have I2 : Inv X pz σ1 H1 { s1 with heap := s1.heap.push { cls := .type "dict_items", data := .fields #[.ref d] } } := I1.kept (t' := s1.toks) fun b ob q => Heap.get?_push_of_some _ q
  refine ⟨hdo.typeIs, hdo.mapOf.noDict, ?_⟩
  show wpAny _ _ (callWith cpos (.builtin "dict.items") [.ref d] [] []) _ X.xe s1
  refine method_meetsIn PySem.F.slot_dict_items PySem.F.entry_dict_items rfl (PySem.evalArgs_none ⟨rfl, hdo.typeIs, PySem.F.args_dict_items_1 _, _, meets_dict_items (mixKind X.prog X.w) d hs0, ⟨vs, hdo⟩, ?_⟩)
  refine Calls.spliced_nil ?_
  show wpAny _ _ (evalAll ((do let v ← eval (.Name "label_of" p2) X.env; standAt pos; pure v) :: (backToKw pos (keywordEach [] X.env)).map (·.2))) _ _ _
  refine wpAny_evalAll_cons (wpAny_bind (ld_glob I2 hgf mgf (wpAny_bind (wpAny_standAt (wpAny_pure (wpAny_evalAll_nil ?_))))))
  rw [hks]
  show wpAny _ _ (call (.builtin "sorted") [.ref s1.heap.objs.size] [(Str.ofString "key", .ref f)]) _ _ _
  refine PyProof.Rows.call_function_entry_kw kind_sorted plain_sorted entry_sorted (ksk_s1 _ _) ?_
  unfold Builtin.«sorted»
  refine wpAny_bind (m := checkCount "sorted" 1 1 _) (wpAny_pure ?_)
  refine wpAny_bind (PySem.W.kdx_collect (knd := mixKind X.prog X.w) (kvs := vs) (ep := ep) (I1.ok.hd hc) ⟨_, Heap.get?_push_size _ rfl, rfl, rfl⟩ (hat.push _) (by rw [← lk]; exact hz) fun h' tk as hk hl hG => ?_)
  have lz : (as.map Value.ref).length ≤ sizeLine := by rw [List.length_map, hl, ← lk]; exact hz
  refine wpAny_bind (wpAny_newList ?_ lz)
  show wpAny _ X.A.in1 (holding [.ref h'.objs.size] (call (.builtin "list.sort") [.ref h'.objs.size] [(Str.ofString "key", .ref f)]) >>= _) _ _ _
  have kin : ∀ (g : Heap), (∀ b o, b ≠ h'.objs.size → (h'.push (seqObj "list" (as.map Value.ref).toArray 0)).get? b = some o → g.get? b = some o) → ∀ b o, h'.get? b = some o → g.get? b = some o := fun g hg b o e =>
    hg b o (Nat.ne_of_lt (Heap.lt_size e)) (Heap.get?_push_of_some _ e)
  have I3 : Inv X pz σ1 H1 { s1 with heap := h', toks := tk } := I2.kept (t' := tk) hk
  have nD : H1 h'.objs.size = none := I3.hok.fresh (Nat.le_refl _)
  have fin : ∀ (bs : List (Value × Str)) (g : Heap) (tk2 c : Nat), (∀ b o, h'.get? b = some o → g.get? b = some o) → g.get? h'.objs.size = some (seqObj "list" (bs.map (·.1)).toArray c) → as.map Value.ref = bs.map (·.1) → EP X pz σ1 Q0 (.ref h'.objs.size) { s1 with heap := g, toks := tk2 } := by
    intro bs g tk2 c hg hD hb
    rcases q with ⟨ek, q⟩ | ⟨l, v, ek, q⟩
    · subst ek
      have v0 : vs = [] := List.length_eq_zero_iff.mp (by rw [← lk]; rfl)
      subst v0
      have a0 : as = [] := List.length_eq_zero_iff.mp (by rw [hl]; rfl)
      subst a0
      rw [← hb] at hD
      exact ⟨.ref h'.objs.size, _, I3.laid (t' := tk2) (o := .lst []) hg (Nat.le_refl _) ⟨Nat.zero_le _, [], c, .nil, hD⟩, rfl, q _ nD⟩
    · subst ek
      cases kv with
      | cons r0 rn =>
        cases rn
        rename_i qv
        obtain ⟨qk, qx⟩ := qv
        obtain ⟨e1, r1⟩ := r0
        have e1 : (Sum.inr l : L2.Key) = qk := e1
        subst e1
        obtain ⟨a, ea⟩ : ∃ a, as = [a] := List.length_eq_one_iff.mp (by rw [hl]; rfl)
        subst ea
        obtain ⟨key, kk, x, f1, f2, f3⟩ := hG.pairs 0 a rfl
        cases f1
        have aw : (s1.heap.push { cls := .type "dict_items", data := .fields #[.ref d] }).objs.size ≤ a := Nat.le_of_lt (hG.above a (by simp))
        have al : a < h'.objs.size := Heap.lt_size f3
        have nA : H1 a = none := I2.hok.fresh aw
        have rk : RelV (kV (Sum.inr l)) key := relV_key (show keyIs (Sum.inr l) key = true from f2)
        have J : Inv X pz σ1 (upd H1 a (.tup [.str l, v])) { s1 with heap := h', toks := tk } := I2.laid (t' := tk) hk aw ⟨by show 2 ≤ sizeLine; decide, [key, qx], .cons rk (.cons r1 .nil), ⟨_, f3, rfl, _, rfl⟩⟩
        rw [← hb] at hD
        exact ⟨.ref h'.objs.size, _, J.laid (t' := tk2) (o := .lst [.ref a]) hg (Nat.le_refl _) ⟨by show 1 ≤ sizeLine; decide, [.ref a], c, .cons rfl .nil, hD⟩, rfl, q a _ nA nD (Nat.ne_of_lt al)⟩
  -- the items with their texts
  have bsx : ∃ bs : List (Value × Str), as.map Value.ref = bs.map (·.1) ∧ bs.length ≤ 1 ∧ ∀ x ∈ bs, ∃ (a : Addr) (t : Tok) (y : Value), x.1 = .ref a ∧ h'.get? a = some { cls := .type "tuple", data := .seq #[.str x.2 t, y] } := by
    rcases q with ⟨ek, _⟩ | ⟨l, v, ek, _⟩
    · subst ek
      have v0 : vs = [] := List.length_eq_zero_iff.mp (by rw [← lk]; rfl)
      subst v0
      have a0 : as = [] := List.length_eq_zero_iff.mp (by rw [hl]; rfl)
      subst a0
      exact ⟨[], rfl, Nat.zero_le _, fun x hx => by cases hx⟩
    · subst ek
      cases kv with
      | cons r0 rn =>
        cases rn
        rename_i qv
        obtain ⟨qk, qx⟩ := qv
        obtain ⟨e1, r1⟩ := r0
        have e1 : (Sum.inr l : L2.Key) = qk := e1
        subst e1
        obtain ⟨a, ea⟩ : ∃ a, as = [a] := List.length_eq_one_iff.mp (by rw [hl]; rfl)
        subst ea
        obtain ⟨key, kk, x, f1, f2, f3⟩ := hG.pairs 0 a rfl
        cases f1
        have rk : RelV (kV (Sum.inr l)) key := relV_key (show keyIs (Sum.inr l) key = true from f2)
        obtain ⟨t, rfl⟩ := rk
        refine ⟨[(.ref a, l)], rfl, Nat.le_refl _, fun y hy => ?_⟩
        rw [List.mem_singleton] at hy
        subst hy
        exact ⟨a, t, qx, rfl, f3⟩
  obtain ⟨bs, b1, b2, b3⟩ := bsx
  have eb : PySem.W.EachIs (fun (v : Value) (b : Value × Str) => v = b.1) (as.map Value.ref) bs := by
    rw [b1]
    clear b1 b2 b3 fin
    induction bs with
    | nil => exact .nil
    | cons b r ih => exact .cons rfl ih
  have hh := I1.ok.hd hc
  refine wpAny_bind (wpAny_holding (PySem.W.list_sort_key_data (s := { s1 with heap := h'.push (seqObj "list" (as.map Value.ref).toArray 0), toks := tk }) (b := false) (fun b => .str b.2) (Heap.get?_push_size _ rfl) eb (PySem.W.AllAlike.of fun _ _ => rfl) (PySem.W.Sortable.others fun b => ⟨(fun z => by cases z), fun xs z => by cases z⟩)
    (Nat.le_trans b2 (by decide)) (fun x _ => by show X.A.units + 1 + 1 + 0 < cLine; omega) (ksk_l1 _ _) (ksk_t1 _ _) ?_ ?_))
  · intro v x hv hx g tk2 hg
    obtain ⟨a, t, y, e1, e2⟩ := b3 x hx
    have e3 := kin g hg a _ e2
    have kg : ∀ b o, s1.heap.get? b = some o → g.get? b = some o := fun b o e => kin g hg b o (hk b o (Heap.get?_push_of_some _ e))
    rw [hv, e1]
    exact lab_call (s := { s1 with heap := g, toks := tk2 }) F (I1.kIn.keeps kg) (I1.nolimit.keeps kg) (by show X.A.depth < _; omega) e3 rfl rfl
  · intro out c g tk2 hg hD ho hE
    refine wpAny_pure ⟨_, rfl, ?_⟩
    have ms : bs.mergeSort (PySem.W.dataLe false fun b => .str b.2) = bs := by
      match bs, b2 with
      | [], _ => simp
      | [b], _ => simp
      | b :: b' :: r, h => exact absurd h (by simp)
    rw [ms] at hE
    have eo : out = bs.map (·.1) := by
      clear b1 b2 b3 fin eb ms hD ho
      induction hE with
      | nil => rfl
      | cons h _ ih => simp [h, ih]
    rw [eo] at hD
    exact fin bs g tk2 c (kin g hg) hD b1
end
end Fw
/-! Fw6: the solver's state; Wants' methods; looked_up, laid_open. -/
namespace Fw
open PySem PySem.Spec PyProof.Rows L2
/-- what a number is filled with -/
inductive En where
  | kd (k : Kd)
  | row (fs : List (Str × Kd)) (t : Option Nat)
abbrev Kn := Nat → Option En
def Kn.put (kn : Kn) (m : Nat) (e : En) : Kn := fun j => if j = m then some e else kn j
def IsEn (K : PySem.W.Frag) (H : Hp) (v : V) : En → Prop
  | .kd k => IsK K H v k
  | .row fs t => IsR K H v fs t
theorem IsEn.keep {K : PySem.W.Frag} {S : Addr → Prop} {H H' : Hp} {v : V} {e : En} (h : IsEn K H v e) (k : Keep S H H') : IsEn K H' v e := by
  cases e with
  | kd d => exact IsK.keep (show IsK K H v d from h) k
  | row fs t => exact IsR.keep (show IsR K H v fs t from h) k
def KnAt (K : PySem.W.Frag) (N : Nat) (H : Hp) (d : Addr) (kn : Kn) : Prop := ∃ kvs : KVs, H d = some (.dK kvs) ∧ (kvs.map (·.1)).Nodup ∧ (∀ e ∈ kvs, ∃ m : Nat, e.1 = Sum.inl (m : Int) ∧ m < N) ∧
  ∀ m : Nat, (kn m = none ∧ valV kvs (Sum.inl (m : Int)) = none) ∨ ∃ e v, kn m = some e ∧ valV kvs (Sum.inl (m : Int)) = some v ∧ IsEn K H v e
theorem KnAt.keep {K : PySem.W.Frag} {N : Nat} {S : Addr → Prop} {H H' : Hp} {d : Addr} {kn : Kn} (h : KnAt K N H d kn) (k : Keep S H H') (n : ¬ S d) : KnAt K N H' d kn := by
  obtain ⟨kvs, h0, h1, h2, h3⟩ := h
  refine ⟨kvs, k.at h0 n, h1, h2, fun m => ?_⟩
  rcases h3 m with h | ⟨e, v, g1, g2, g3⟩
  · exact .inl h
  · exact .inr ⟨e, v, g1, g2, g3.keep k⟩
theorem keys_len {kvs : KVs} {N : Nat} (h1 : (kvs.map (·.1)).Nodup) (h2 : ∀ e ∈ kvs, ∃ m : Nat, e.1 = Sum.inl (m : Int) ∧ m < N) : kvs.length ≤ N := by
  have q := nodup_len (kvs.map (·.1)) ((List.range N).map fun (n : Nat) => (Sum.inl (n : Int) : L2.Key)) h1 fun x hx => by
    obtain ⟨e, he, rfl⟩ := List.mem_map.mp hx
    obtain ⟨m, e1, hm⟩ := h2 e he
    exact List.mem_map.mpr ⟨m, List.mem_range.mpr hm, e1.symm⟩
  simpa using q
theorem keys_put {kvs : KVs} {k : L2.Key} {v : V} (h1 : (kvs.map (·.1)).Nodup) : ((putK kvs k v).map (·.1)).Nodup ∧ ∀ e ∈ putK kvs k v, e.1 = k ∨ e.1 ∈ kvs.map (·.1) := by
  cases q : valV kvs k with
  | some x =>
    have mm : (putK kvs k v).map (·.1) = kvs.map (·.1) := by
      unfold putK
      rw [valV_any, q]
      simp only [Option.isSome_some, if_true, List.map_map]
      refine List.map_congr_left fun e _ => ?_
      simp only [Function.comp]
      split <;> rfl
    refine ⟨by rw [mm]; exact h1, fun e he => .inr ?_⟩
    rw [← mm]
    exact List.mem_map.mpr ⟨e, he, rfl⟩
  | none =>
    rw [putK_new _ q]
    refine ⟨?_, fun e he => ?_⟩
    · rw [List.map_append]
      exact nodup_snoc h1 (valV_none q)
    · rcases List.mem_append.mp he with he | he
      · exact .inr (List.mem_map.mpr ⟨e, he, rfl⟩)
      · rw [List.mem_singleton] at he
        subst he
        exact .inl rfl
/-- known[m] = v -/
theorem knAt_put {K : PySem.W.Frag} {N : Nat} {H : Hp} {d : Addr} {kn : Kn} {m : Nat} {v : V} {e : En} {Q : Hp → Prop} (h : KnAt K N H d kn) (hm : m < N) (hN : N ≤ 100000) (hv : IsEn K H v e)
    (q : ∀ H', Keep (· = d) H H' → KnAt K N H' d (kn.put m e) → Q H') : ∃ H4, DPut H d (.int (m : Int)) v H4 ∧ Q H4 := by
  obtain ⟨kvs, h0, h1, h2, h3⟩ := h
  have ln := keys_len h1 h2
  have k4 : Keep (· = d) H (upd H d (.dK (putK kvs (Sum.inl (m : Int)) v))) := keep_upd h0 rfl rfl
  refine ⟨_, DPut.k (k := Sum.inl (m : Int)) h0 (sz_lt (by omega)), q _ k4 ?_⟩
  obtain ⟨p1, p2⟩ := keys_put (k := Sum.inl (m : Int)) (v := v) h1
  refine ⟨_, upd_same, p1, fun e he => ?_, fun j => ?_⟩
  · rcases p2 e he with z | z
    · exact ⟨m, z, hm⟩
    · obtain ⟨e', he', ee⟩ := List.mem_map.mp z
      rw [← ee]
      exact h2 e' he'
  · by_cases hj : j = m
    · subst hj
      exact .inr ⟨e, v, if_pos rfl, by rw [valV_put, if_pos rfl], hv.keep k4⟩
    · have ne : ¬ (Sum.inl (j : Int) : L2.Key) = Sum.inl (m : Int) := fun z => hj (by have := Sum.inl.inj z; omega)
      have e1 : (kn.put m e) j = kn j := if_neg hj
      rw [e1, valV_put, if_neg ne]
      rcases h3 j with h | ⟨e, v, g1, g2, g3⟩
      · exact .inl h
      · exact .inr ⟨e, v, g1, g2, g3.keep k4⟩
structure WantsF (fs : List (Str × V)) (dk dl : Addr) : Prop where
  known : fs.lookup ("known" : Str) = some (.ref dk)
  lacking : fs.lookup ("lacking" : Str) = some (.ref dl)
  len : fs.length ≤ 10
  m1 : fs.lookup ("must_lack" : Str) = none
  m2 : fs.lookup ("lacked" : Str) = none
/-- wants stands at w -/
structure WA (K : PySem.W.Frag) (C : Addr) (B : Bd) (H : Hp) (w dk dl : Addr) (Sl : Addr → Prop) (kn : Kn) : Prop where
  ins : ∃ dx fs, H w = some (.ins C dx fs) ∧ WantsF fs dk dl
  kn : KnAt K B.N H dk kn
  lk : LkAt B H dl Sl
  nw : ¬ Sl w
  nk : ¬ Sl dk
  bN : B.N ≤ 100000
  bU : B.U.length ≤ 1000
section
variable {K : PySem.W.Frag} {C : Addr} {B : Bd} {H H' : Hp} {w dk dl : Addr} {Sl Sl' : Addr → Prop} {kn kn' : Kn}
theorem WA.same (h : WA K C B H w dk dl Sl kn) (s : Same H H') : WA K C B H' w dk dl Sl kn := by
  obtain ⟨dx, fs, e, f⟩ := h.ins
  exact ⟨⟨dx, fs, s _ _ e, f⟩, h.kn.keep (same_keep s) id, lk_keep h.lk (same_keep s) (fun _ _ z => z), h.nw, h.nk, h.bN, h.bU⟩
theorem WA.nwk (h : WA K C B H w dk dl Sl kn) : w ≠ dk := by
  obtain ⟨dx, fs, e, f⟩ := h.ins
  obtain ⟨kvs, e', _⟩ := h.kn
  exact ne_of e e' (by intro z; cases z)
theorem WA.ndl (h : WA K C B H w dk dl Sl kn) : Sl dl := by
  obtain ⟨⟨kvs, _, e, _⟩, _⟩ := h.lk
  exact e
/-- the dict known has changed -/
theorem WA.kput (h : WA K C B H w dk dl Sl kn) (k : Keep (· = dk) H H') (n : KnAt K B.N H' dk kn') : WA K C B H' w dk dl Sl kn' := by
  obtain ⟨dx, fs, e, f⟩ := h.ins
  exact ⟨⟨dx, fs, k.at e h.nwk, f⟩, n, lk_keep h.lk k (fun b z e => h.nk (e ▸ z)), h.nw, h.nk, h.bN, h.bU⟩
/-- lacking has changed -/
theorem WA.lput (h : WA K C B H w dk dl Sl kn) (k : WStep Sl H Sl' H') (n : LkAt B H' dl Sl') : WA K C B H' w dk dl Sl' kn := by
  obtain ⟨dx, fs, e, f⟩ := h.ins
  obtain ⟨kvs, e', _⟩ := id h.kn
  refine ⟨⟨dx, fs, k.1.at e h.nw, f⟩, h.kn.keep k.1 h.nk, n, fun z => ?_, fun z => ?_, h.bN, h.bU⟩
  · rcases k.2 _ z with z | z
    · exact h.nw z
    · rw [e] at z; cases z
  · rcases k.2 _ z with z | z
    · exact h.nk z
    · rw [e'] at z; cases z
end
/-- the footprint of a change -/
def Ft (dk : Addr) (Sl : Addr → Prop) : Addr → Prop := fun b => b = dk ∨ Sl b
structure TW (K : PySem.W.Frag) (mg : Str → Option Value) (C : Addr) : Prop where
  mgW : mg "Wants" = some (.ref C)
  cl : Cls K C
  nK : NoAttr K C "known"
  nL : NoAttr K C "lacking"
  nF : NoAttr K C "fresh"
abbrev s_must_lack : Stmt := inClass (top 14) 1
abbrev s_lacked : Stmt := inClass (top 14) 2
theorem sc_must_lack : FnScope ["self", "tail", "labels", "held", "label"] ["self", "tail", "labels"] (defScope s_must_lack) := ⟨rfl, rfl, rfl, by decide +kernel, rfl, by decide +kernel, by decide +kernel⟩
theorem sc_lacked : FnScope ["self", "tail"] ["self", "tail"] (defScope s_lacked) := ⟨rfl, rfl, rfl, by decide +kernel, rfl, by decide +kernel, by decide +kernel⟩
def sp_must_lack (K : PySem.W.Frag) (C : Addr) : Sp := fun vs H Q _ => ∃ (w dk dl L : Addr) (t : Option Nat) (ls : List Str) (B : Bd) (Sl : Addr → Prop) (kn : Kn), vs = [.ref w, tV t, .ref L] ∧ WA K C B H w dk dl Sl kn ∧ H L = some (.lst (ls.map V.str)) ∧
  (∀ n, t = some n → n < B.N ∧ B.Tk n ∧ ∀ l ∈ ls, l ∈ B.U ∧ B.Lk n l) ∧ ∀ Sl' H', WStep Sl H Sl' H' → LkAt B H' dl Sl' → Q .non H'
def sp_lacked (K : PySem.W.Frag) (C : Addr) : Sp := fun vs H Q _ => ∃ (w dk dl : Addr) (t : Nat) (B : Bd) (Sl : Addr → Prop) (kn : Kn), vs = [.ref w, .int (t : Int)] ∧ WA K C B H w dk dl Sl kn ∧
  ∀ (p : Addr) (H' : Hp) (ls : List Str), Same H H' → H p = none → H' p = some (.lst (ls.map V.str)) → (∀ l ∈ ls, l ∈ B.U ∧ B.Lk t l) → ls.length ≤ B.U.length → Q (.ref p) H'
section
variable {P : Program} {w : World} {K : PySem.W.Frag} {mg : Str → Option Value} {base : Heap} {C : Addr}
theorem ok_must_lack (D : Mtd K C "must_lack" "Wants.must_lack" s_must_lack ["self", "tail", "labels"]) (T : TW K mg C) : CalM P w K mg base CX0 1 C "must_lack" ["self", "tail", "labels"] (sp_must_lack K C) := by
  have S := sc_must_lack
  refine calM_of D S (fun vs H Q E h => ?_) (fun f cdv A outer s H vs Q E hr h => ?_)
  · obtain ⟨w, dk, dl, L, t, ls, B, Sl, kn, rfl, _⟩ := h
    rfl
  obtain ⟨w, dk, dl, L, t, ls, B, Sl, kn, rfl, W, hL, hb, q⟩ := h
  have hu := hu_of hr
  refine ⟨_, (pss_one (ps_if (pt_cmpR op_notN (pv 1) pe_non (nomark _))
      (pss_cons (ps_set (i := 3) S.nd rfl (Or.inl rfl) (pe_dsetd (pe_fld (pv 0) rfl) (pv 1) pe_dnewK ⟨rfl, rfl, rfl, rfl⟩))
      (pss_one (ps_for PassesOwn.never rfl (pi_list (pv 2)) (pg_name (i := 4) S.nd rfl (Or.inl rfl))
        (pss_one (ps_dput hu (pv 3) (pv 4) pe_bl rfl)))))
      pss_nil)), ?_⟩
  obtain ⟨dx, fs, e, f⟩ := W.ins
  refine ⟨_, rfl, rfl, _, rfl, ?_⟩
  cases t with
  | none => exact iteF (q Sl H (.refl _ _) W.lk)
  | some n =>
    obtain ⟨b1, b2, b3⟩ := hb n rfl
    refine iteT ?_
    refine ⟨_, rfl, w, C, dx, fs, _, rfl, e, T.cl, T.nL, f.lacking, dl, rfl, ?_, _, rfl, fun p hp => ?_⟩
    · obtain ⟨⟨kv, g, _⟩, _⟩ := W.lk
      exact .inl ⟨kv, .of g⟩
    refine lk_setd W.lk b1 b2 W.bN (fun S1 H1 a k1 L1 _ e1 => ?_) p hp
    have nL : ¬ Sl L := fun z => by
      obtain ⟨kv, g⟩ := W.lk.2 L z
      rw [hL] at g
      cases g
    have nL1 : ¬ S1 L := fun z => by
      rcases k1.2 L z with z | z
      · exact nL z
      · rw [hL] at z; cases z
    have hL1 : H1 L = some (.lst (ls.map V.str)) := k1.1.at hL nL
    refine ⟨_, rfl, L, rfl, ⟨_, .of hL1⟩, for_list (K := K) (a := L) (xs := ls.map V.str) (fun i σ H2 => ∃ x, σ = [some (.ref w), some (tV (some n)), some (.ref L), some (.ref a), x] ∧ WStep S1 H1 S1 H2 ∧ LkAt B H2 dl S1 ∧ Ent H2 dl n a)
      ⟨none, rfl, .refl _ _, L1, e1⟩ (fun i σ H2 _ ⟨_, _, k, _⟩ => .of (k.1.at hL1 nL1)) ?_ ?_⟩
    · rintro i x σ H2 hi ⟨y, rfl, k2, L2', e2⟩
      rw [List.getElem?_map] at hi
      cases g : ls[i]? with
      | none => rw [g] at hi; cases hi
      | some l =>
        rw [g] at hi
        cases hi
        obtain ⟨c1, c2⟩ := b3 l (List.mem_of_getElem? g)
        refine ⟨_, rfl, _, rfl, a, ?_⟩
        obtain ⟨H4, d4, q4⟩ := lk_put (Q := fun H4 => ∃ x, [some (V.ref w), some (tV (some n)), some (.ref L), some (.ref a), some (.str l)] = [some (V.ref w), some (tV (some n)), some (.ref L), some (.ref a), x] ∧ WStep S1 H1 S1 H4 ∧ LkAt B H4 dl S1 ∧ Ent H4 dl n a)
          L2' e2 c1 c2 W.bU fun H4 k4 L4 n4 => ⟨_, rfl, k2.trans k4, L4, n4 _ _ e2⟩
        exact ⟨H4, rfl, d4, q4⟩
    · rintro σ H2 ⟨y, rfl, k2, L2', e2⟩
      exact q S1 H2 (k1.trans k2) L2'
theorem ok_lacked (D : Mtd K C "lacked" "Wants.lacked" s_lacked ["self", "tail"]) (T : Txt K mg) (T' : TW K mg C) : CalM P w K mg base CX0 1 C "lacked" ["self", "tail"] (sp_lacked K C) := by
  have S := sc_lacked
  refine calM_of D S (fun vs H Q E h => ?_) (fun f cdv A outer s H vs Q E hr h => ?_)
  · obtain ⟨w, dk, dl, t, B, Sl, kn, rfl, _⟩ := h
    rfl
  obtain ⟨w, dk, dl, t, B, Sl, kn, rfl, W, q⟩ := h
  have hu := hu_of hr
  refine ⟨_, (pss_one (ps_ret (pe_callTy (call_list_dK rfl) rfl T.list (by decide +kernel) (pa_cons (pe_dget2 hu (pe_fld (pv 0) rfl) (pv 1) pe_dnewK ⟨rfl, rfl, rfl, rfl⟩) pa_nil)))), ?_⟩
  obtain ⟨dx, fs, e, f⟩ := W.ins
  obtain ⟨kvs, on⟩ := W.lk.1
  obtain ⟨h0, h1, h2, h3, h4⟩ := id on
  refine ⟨_, rfl, w, C, dx, fs, _, rfl, e, T'.cl, T'.nL, f.lacking, dl, rfl, .inl ⟨kvs, .of h0⟩, _, rfl, fun p hp => ?_⟩
  refine newG hp fun H1 s1 g1 => ?_
  have d1 := s1 _ _ h0
  refine ⟨_, .inl ⟨kvs, Sum.inl (t : Int), .of d1, rfl, rfl⟩, ?_⟩
  cases ev : valV kvs (Sum.inl (t : Int) : L2.Key) with
  | none =>
    refine ⟨p, [], rfl, g1, fun l hl => ?_⟩
    refine newG hl fun H2 s2 g2 => ?_
    exact q l H2 [] (s1.trans s2) (s1.free hl) g2 (fun l hl => by cases hl) (Nat.zero_le _)
  | some v =>
    obtain ⟨t', a, q0, q1, q2, q3, q4, inn⟩ := h4 _ (valV_mem ev)
    have tt : t' = t := by have := Sum.inl.inj (Prod.mk.inj q0).1; omega
    subst tt
    have hv : v = .ref a := (Prod.mk.inj q0).2
    subst hv
    obtain ⟨ls, i0, i1, i2⟩ := id inn
    obtain ⟨ls', j0, j1⟩ := inn.len
    rw [i0] at j0
    cases j0
    refine ⟨a, ls, rfl, s1 _ _ i0, fun l hl => ?_⟩
    refine newG hl fun H2 s2 g2 => ?_
    have key : ∃ xs : List Str, (ls.map fun kv => kV kv.1) = xs.map V.str ∧ (∀ l ∈ xs, l ∈ B.U ∧ B.Lk t' l) ∧ xs.length = ls.length := by
      clear i0 i1 j1 g2 inn
      induction ls with
      | nil => exact ⟨[], rfl, (fun l hl => by cases hl), rfl⟩
      | cons e r ih =>
        obtain ⟨xs, x1, x2, x3⟩ := ih fun e he => i2 e (List.mem_cons_of_mem _ he)
        obtain ⟨y, y1, y2, y3⟩ := i2 e List.mem_cons_self
        refine ⟨y :: xs, ?_, fun l hl => ?_, by simp [x3]⟩
        · rw [List.map_cons, List.map_cons, x1, y1]
          rfl
        · rcases List.mem_cons.mp hl with rfl | hl
          · exact ⟨y2, y3⟩
          · exact x2 l hl
    obtain ⟨xs, x1, x2, x3⟩ := key
    rw [x1] at g2
    exact q l H2 xs (s1.trans s2) (s1.free hl) g2 x2 (by omega)
/-! ### looked_up -/
def Kd.isVar : Kd → Bool
  | .var _ => true
  | _ => false
/-- k, looked up in m steps, is r -/
inductive Lup (kn : Kn) : Kd → Kd → Nat → Prop
  | done {k : Kd} : k.isVar = false → Lup kn k k 0
  | unk {n : Nat} : kn n = none → Lup kn (.var n) (.var n) 0
  | step {n m : Nat} {k r : Kd} : kn n = some (.kd k) → Lup kn k r m → Lup kn (.var n) r (m + 1)
abbrev s_looked_up : Stmt := top 15
theorem sc_looked_up : FnScope ["wants", "told"] ["wants", "told"] (defScope s_looked_up) := ⟨rfl, rfl, rfl, by decide +kernel, rfl, by decide +kernel, by decide +kernel⟩
def sp_looked_up (K : PySem.W.Frag) (C : Addr) : Sp := fun vs H Q _ => ∃ (w dk dl : Addr) (v : V) (k r : Kd) (m : Nat) (B : Bd) (Sl : Addr → Prop) (kn : Kn), vs = [.ref w, v] ∧ WA K C B H w dk dl Sl kn ∧ IsK K H v k ∧ Lup kn k r m ∧ ∀ v', IsK K H v' r → Q v' H
theorem ok_looked_up (D : Dfn K mg "looked_up" s_looked_up ["wants", "told"]) (T : TW K mg C) : Cal P w K mg base CX0 1 "looked_up" ["wants", "told"] (sp_looked_up K C) := by
  have S := sc_looked_up
  refine cal_of D S (fun vs H Q E h => ?_) (fun f cdv A outer s H vs Q E hr h => ?_)
  · obtain ⟨w, dk, dl, v, k, r, m, B, Sl, kn, rfl, _⟩ := h
    rfl
  obtain ⟨w, dk, dl, v, k, r, m, B, Sl, kn, rfl, W, hv, hl, q⟩ := h
  have hu := hu_of hr
  refine ⟨_, (pss_cons (ps_while PassesOwn.never (PW.pt (pw_and (pt_cmpR op_eq (pe_ix ix_tup (pv 1) pe_int (fun _ _ => rfl)) pe_str (nomark _)) (pw_and1 (pt_cmp (pc_din hu (pe_ix ix_tup (pv 1) pe_int (fun _ _ => rfl)) (pe_fld (pv 0) rfl))))))
      (pss_one (ps_set (i := 1) S.nd rfl (Or.inl rfl) (pe_dget hu (pe_fld (pv 0) rfl) (pe_ix ix_tup (pv 1) pe_int (fun _ _ => rfl)) (fun _ _ => rfl)))))
    (pss_one (ps_ret (pv 1)))), ?_⟩
  obtain ⟨dx, fs, e, f⟩ := W.ins
  obtain ⟨kvs, h0, h1, h2, h3⟩ := id W.kn
  refine ⟨fun m σ H' => H' = H ∧ ∃ v k, σ = [some (.ref w), some v] ∧ IsK K H v k ∧ Lup kn k r m, ⟨m, rfl, v, k, rfl, hv, hl⟩, ?_⟩
  rintro m σ H' ⟨rfl, v, k, rfl, hv, hl⟩
  cases hl with
  | done hk =>
    cases hv with
    | @num p g =>
      refine ⟨_, rfl, p, _, _, _, rfl, rfl, g, atI_nat rfl, rfl, _, rfl, iteF ?_⟩
      exact iteF ⟨_, rfl, q _ (.num g)⟩
    | @var p n g => cases hk
    | @fn p x y A B' g g1 g2 =>
      refine ⟨_, rfl, p, _, _, _, rfl, rfl, g, atI_nat rfl, rfl, _, rfl, iteF ?_⟩
      exact iteF ⟨_, rfl, q _ (.fn g g1 g2)⟩
    | @rc p a b vs fs t g g1 g2 g3 =>
      refine ⟨_, rfl, p, _, _, _, rfl, rfl, g, atI_nat rfl, rfl, _, rfl, iteF ?_⟩
      exact iteF ⟨_, rfl, q _ (.rc g g1 g2 g3)⟩
  | @unk n hn =>
    cases hv with
    | @var p _ g =>
      refine ⟨_, rfl, p, _, _, _, rfl, rfl, g, atI_nat rfl, rfl, _, rfl, iteT ?_⟩
      rcases h3 n with ⟨_, h⟩ | ⟨en, u, h, _⟩
      · refine ⟨_, rfl, p, _, _, _, rfl, rfl, g, atI_nat rfl, _, rfl, w, C, dx, fs, _, rfl, e, T.cl, T.nK, f.known, dk, none, rfl, .inl ⟨kvs, Sum.inl (n : Int), .of h0, rfl, h.symm⟩, _, rfl, iteF ?_⟩
        exact ⟨_, rfl, q _ (.var g)⟩
      · rw [hn] at h; cases h
  | @step n m k _ hn hl =>
    cases hv with
    | @var p _ g =>
      refine ⟨_, rfl, p, _, _, _, rfl, rfl, g, atI_nat rfl, rfl, _, rfl, iteT ?_⟩
      rcases h3 n with ⟨h, _⟩ | ⟨en, u, h, g1, g2⟩
      · rw [hn] at h; cases h
      · rw [hn] at h
        cases h
        refine ⟨_, rfl, p, _, _, _, rfl, rfl, g, atI_nat rfl, _, rfl, w, C, dx, fs, _, rfl, e, T.cl, T.nK, f.known, dk, some u, rfl, .inl ⟨kvs, Sum.inl (n : Int), .of h0, rfl, g1.symm⟩, _, rfl, iteT ?_⟩
        refine ⟨fun σ' H2 => H2 = H' ∧ ∃ v k, σ' = [some (.ref w), some v] ∧ IsK K H' v k ∧ Lup kn k r m, fun σ' H2 z => ⟨m, by omega, z⟩, ?_⟩
        exact ⟨_, rfl, w, C, dx, fs, _, rfl, e, T.cl, T.nK, f.known, _, rfl, p, _, _, _, rfl, rfl, g, atI_nat rfl, dk, u, rfl, .inl ⟨kvs, Sum.inl (n : Int), .of h0, rfl, g1.symm⟩, rfl, u, k, rfl, g2, hl⟩
end
end Fw
/-! Fw7: laid_open, less_those, weigh. -/
namespace Fw
open PySem PySem.Spec PyProof.Rows L2
/-- the dict's pairs are these fields -/
inductive IsFd (K : PySem.W.Frag) (H : Hp) : KVs → List (Str × Kd) → Prop
  | nil : IsFd K H [] []
  | cons {l : Str} {v : V} {d : Kd} {kvs : KVs} {fs : List (Str × Kd)} : IsK K H v d → IsFd K H kvs fs → IsFd K H ((Sum.inr l, v) :: kvs) ((l, d) :: fs)
section
variable {K : PySem.W.Frag} {S : Addr → Prop} {H H' : Hp}
theorem IsFd.keep (k : Keep S H H') : ∀ {kvs : KVs} {fs : List (Str × Kd)}, IsFd K H kvs fs → IsFd K H' kvs fs
  | _, _, .nil => .nil
  | _, _, .cons a b => .cons (a.keep k) (IsFd.keep k b)
theorem IsFd.keys : ∀ {kvs : KVs} {fs : List (Str × Kd)}, IsFd K H kvs fs → kvs.map (·.1) = fs.map fun e => (Sum.inr e.1 : L2.Key)
  | _, _, .nil => rfl
  | _, _, .cons a b => by simp [IsFd.keys b]
theorem IsFd.length {kvs : KVs} {fs : List (Str × Kd)} (h : IsFd K H kvs fs) : kvs.length = fs.length := by
  have := congrArg List.length h.keys
  simpa using this
theorem IsFd.append : ∀ {a b : KVs} {fs gs : List (Str × Kd)}, IsFd K H a fs → IsFd K H b gs → IsFd K H (a ++ b) (fs ++ gs)
  | _, _, _, _, .nil, h => h
  | _, _, _, _, .cons x y, h => .cons x (IsFd.append y h)
theorem IsFd.nodup {kvs : KVs} {fs : List (Str × Kd)} (h : IsFd K H kvs fs) (n : (fs.map (·.1)).Nodup) : (kvs.map (·.1)).Nodup := by
  rw [h.keys]
  have : (fs.map fun e => (Sum.inr e.1 : L2.Key)) = (fs.map (·.1)).map fun x => (Sum.inr x : L2.Key) := by rw [List.map_map]; rfl
  rw [this]
  unfold List.Nodup at n ⊢
  rw [List.pairwise_map]
  exact n.imp fun ne e => ne (Sum.inr.inj e)
theorem isFs_dict : ∀ {fs : List (Str × Kd)} {vs : List V}, IsFs K H vs fs → ∃ (ps : List Addr) (kvs : KVs), vs = ps.map V.ref ∧ Paired (fun p kv => SqT K H p [kV kv.1, kv.2]) ps kvs ∧ IsFd K H kvs fs
  | [], _, h => by
    cases h
    exact ⟨[], [], rfl, .nil, .nil⟩
  | (l, d) :: r, _, h => by
    cases h with
    | @cons p _ x _ _ _ a b c =>
      obtain ⟨ps, kvs, e1, e2, e3⟩ := isFs_dict c
      exact ⟨p :: ps, (Sum.inr l, x) :: kvs, by rw [e1]; rfl, .cons a e2, .cons b e3⟩
end
theorem merge_app : ∀ (more kvs : KVs), ((kvs ++ more).map (·.1)).Nodup → mergeK kvs more = kvs ++ more
  | [], kvs, _ => by simp [mergeK]
  | e :: r, kvs, h => by
    have hn : valV kvs e.1 = none := by
      cases q : valV kvs e.1 with
      | none => rfl
      | some v =>
        have m := valV_mem q
        rw [List.map_append, List.map_cons, List.nodup_append] at h
        exact absurd rfl (h.2.2 e.1 (List.mem_map.mpr ⟨_, m, rfl⟩) e.1 List.mem_cons_self)
    have h' : (((kvs ++ [e]) ++ r).map (·.1)).Nodup := by simpa using h
    have ih := merge_app r (kvs ++ [e]) h'
    show mergeK (putK kvs e.1 e.2) r = kvs ++ e :: r
    rw [putK_new _ hn, ih]
    simp
/-- fields and tail, laid open in n steps -/
inductive LO (kn : Kn) : List (Str × Kd) → Option Nat → List (Str × Kd) → Option Nat → Nat → Prop
  | done {fs : List (Str × Kd)} {t : Option Nat} : (∀ n, t = some n → kn n = none) → LO kn fs t fs t 0
  | step {fs fs2 fs' : List (Str × Kd)} {t2 t' : Option Nat} {n m : Nat} : kn n = some (.row fs2 t2) → LO kn (fs ++ fs2) t2 fs' t' m → LO kn fs (some n) fs' t' (m + 1)
theorem LO.pre {kn : Kn} {fs fs' : List (Str × Kd)} {t t' : Option Nat} {m : Nat} (h : LO kn fs t fs' t' m) : ∃ r, fs' = fs ++ r := by
  induction h with
  | done _ => exact ⟨[], by simp⟩
  | step _ _ ih =>
    obtain ⟨r, e⟩ := ih
    exact ⟨_, by rw [e, List.append_assoc]⟩
theorem nodup_pre {fs r : List (Str × Kd)} (h : ((fs ++ r).map (·.1)).Nodup) : (fs.map (·.1)).Nodup := by
  rw [List.map_append] at h
  exact (List.nodup_append.mp h).1
abbrev s_laid_open : Stmt := top 16
abbrev s_weigh : Stmt := top 17
abbrev s_less_those : Stmt := top 20
theorem sc_laid_open : FnScope ["wants", "row", "fields", "tail", "more"] ["wants", "row"] (defScope s_laid_open) := ⟨rfl, rfl, rfl, by decide +kernel, rfl, by decide +kernel, by decide +kernel⟩
theorem sc_weigh : FnScope ["wants", "told", "barred", "many", "waiting", "held", "fields", "tail"] ["wants", "told", "barred"] (defScope s_weigh) := ⟨rfl, rfl, rfl, by decide +kernel, rfl, by decide +kernel, by decide +kernel⟩
theorem sc_less_those : FnScope ["fields", "others", "left", "label", "held"] ["fields", "others"] (defScope s_less_those) := ⟨rfl, rfl, rfl, by decide +kernel, rfl, by decide +kernel, by decide +kernel⟩
def sp_laid_open (K : PySem.W.Frag) (C : Addr) : Sp := fun vs H Q _ => ∃ (w dk dl : Addr) (v : V) (fs fs' : List (Str × Kd)) (t t' : Option Nat) (m : Nat) (B : Bd) (Sl : Addr → Prop) (kn : Kn), vs = [.ref w, v] ∧ WA K C B H w dk dl Sl kn ∧ IsR K H v fs t ∧ LO kn fs t fs' t' m ∧ (fs'.map (·.1)).Nodup ∧ fs'.length ≤ 1000 ∧
  ∀ (p d : Addr) (kvs : KVs) (H' : Hp), Same H H' → H p = none → H d = none → H' p = some (.tup [.ref d, tV t']) → H' d = some (.dK kvs) → IsFd K H' kvs fs' → Q (.ref p) H'
section
variable {P : Program} {w : World} {K : PySem.W.Frag} {mg : Str → Option Value} {base : Heap} {C : Addr}
theorem ok_laid_open (D : Dfn K mg "laid_open" s_laid_open ["wants", "row"]) (T : Txt K mg) (TW : TW K mg C) : Cal P w K mg base CX0 1 "laid_open" ["wants", "row"] (sp_laid_open K C) := by
  have S := sc_laid_open
  refine cal_of D S (fun vs H Q E h => ?_) (fun f cdv A outer s H vs Q E hr h => ?_)
  · obtain ⟨w, dk, dl, v, fs, fs', t, t', m, B, Sl, kn, rfl, _⟩ := h
    rfl
  obtain ⟨w, dk, dl, v, fs, fs', t, t', m, B, Sl, kn, rfl, W, hv, hl, nd, ln, q⟩ := h
  have hu := hu_of hr
  refine ⟨_, (pss_cons (ps_set (i := 2) S.nd rfl (Or.inl rfl) (pe_callTy (call_dictT rfl) rfl T.dict (by decide +kernel) (pa_cons (pe_ix ix_tup (pv 1) pe_int (fun _ _ => rfl)) pa_nil)))
    (pss_cons (ps_set (i := 3) S.nd rfl (Or.inl rfl) (pe_ix ix_tup (pv 1) pe_int (fun _ _ => rfl)))
    (pss_cons (ps_while PassesOwn.never (PW.pt (pw_and (pt_cmpR op_notN (pv 3) pe_non (nomark _)) (pw_and1 (pt_cmp (pc_din hu (pv 3) (pe_fld (pv 0) rfl))))))
      (pss_cons (ps_set (i := 4) S.nd rfl (Or.inl rfl) (pe_dget hu (pe_fld (pv 0) rfl) (pv 3) (fun _ _ => rfl)))
      (pss_cons (ps_expr (pe_dupdate (pv 2) (pe_callTy (call_dictT rfl) rfl T.dict (by decide +kernel) (pa_cons (pe_ix ix_tup (pv 4) pe_int (fun _ _ => rfl)) pa_nil)) ⟨rfl, rfl, rfl, rfl⟩))
      (pss_one (ps_set (i := 3) S.nd rfl (Or.inl rfl) (pe_ix ix_tup (pv 4) pe_int (fun _ _ => rfl)))))))
    (pss_one (ps_ret (pe_tup (pa_cons (pv 2) (pa_cons (pv 3) pa_nil)))))))), ?_⟩
  obtain ⟨dx, gs, e, f⟩ := W.ins
  obtain ⟨kvs, h0, h1, h2, h3⟩ := id W.kn
  obtain ⟨r, g, vs, rfl, e1, e2, e3⟩ := hv
  obtain ⟨ps, kv0, rfl, p1, p2⟩ := isFs_dict e3
  obtain ⟨r1, er⟩ := hl.pre
  have nd0 : (kv0.map (·.1)).Nodup := p2.nodup (nodup_pre (by rw [← er]; exact nd))
  refine ⟨_, rfl, r, _, _, _, rfl, rfl, e1, atI_nat rfl, g, ps, kv0, rfl, e2, p1, fun d hd => ?_⟩
  refine newG hd fun H1 s1 g1 => ?_
  rw [merge_app kv0 [] (by simpa using nd0)] at g1
  refine ⟨_, rfl, r, _, _, _, rfl, rfl, sqT_keep (same_keep s1) e1, atI_nat rfl, ?_⟩
  refine ⟨fun m σ H2 => ∃ fs t kv x, σ = [some (.ref w), some (.ref r), some (.ref d), some (tV t), x] ∧ Same H H2 ∧ H2 d = some (.dK kv) ∧ IsFd K H2 kv fs ∧ LO kn fs t fs' t' m, ⟨m, fs, t, kv0, none, rfl, s1, g1, p2.keep (same_keep s1), hl⟩, ?_⟩
  rintro m σ H2 ⟨fs1, t1, kv, x, rfl, s2, g2, p2, hl⟩
  cases hl with
  | done hn =>
    have fin : tRet (tTup (tCons (tVar 2) (tCons (tVar 3) tNil))) { nx := fun _ H' => Q .non H', rt := Q } [some (.ref w), some (.ref r), some (.ref d), some (tV t'), x] H2 := by
      refine ⟨_, rfl, _, rfl, (by show 2 ≤ sizeLine; decide), fun p hp => ?_⟩
      refine newG hp fun H3 s3 g3 => ?_
      exact q p d kv H3 (s2.trans s3) (s2.free hp) hd g3 (s3 _ _ g2) (p2.keep (same_keep s3))
    cases t' with
    | none => exact ⟨_, rfl, rfl, _, rfl, iteF (iteF fin)⟩
    | some n =>
      refine ⟨_, rfl, rfl, _, rfl, iteT ?_⟩
      rcases h3 n with ⟨_, h⟩ | ⟨en, u, h, _⟩
      · exact ⟨_, rfl, _, rfl, w, C, dx, gs, _, rfl, s2 _ _ e, TW.cl, TW.nK, f.known, dk, none, rfl, .inl ⟨kvs, Sum.inl (n : Int), .of (s2 _ _ h0), rfl, h.symm⟩, _, rfl, iteF fin⟩
      · rw [hn n rfl] at h; cases h
  | @step _ fs2 _ t2 _ n m hn hl =>
    refine ⟨_, rfl, rfl, _, rfl, iteT ?_⟩
    rcases h3 n with ⟨h, _⟩ | ⟨en, u, h, u1, u2⟩
    · rw [hn] at h; cases h
    rw [hn] at h
    cases h
    refine ⟨_, rfl, _, rfl, w, C, dx, gs, _, rfl, s2 _ _ e, TW.cl, TW.nK, f.known, dk, some u, rfl, .inl ⟨kvs, Sum.inl (n : Int), .of (s2 _ _ h0), rfl, u1.symm⟩, _, rfl, iteT ?_⟩
    refine ⟨fun σ' H3 => ∃ fs t kv x, σ' = [some (.ref w), some (.ref r), some (.ref d), some (tV t), x] ∧ Same H H3 ∧ H3 d = some (.dK kv) ∧ IsFd K H3 kv fs ∧ LO kn fs t fs' t' m, fun σ' H3 z => ⟨m, by omega, z⟩, ?_⟩
    refine ⟨_, rfl, w, C, dx, gs, _, rfl, s2 _ _ e, TW.cl, TW.nK, f.known, _, rfl, dk, u, rfl, .inl ⟨kvs, Sum.inl (n : Int), .of (s2 _ _ h0), rfl, u1.symm⟩, ?_⟩
    obtain ⟨r', g', vs', rfl, f1, f2, f3⟩ := show IsR K H u fs2 t2 from u2
    obtain ⟨ps', kv', rfl, q1, q2⟩ := isFs_dict f3
    obtain ⟨r2, er2⟩ := hl.pre
    have q2' := q2.keep (same_keep s2)
    have q1' : Paired (fun p kv => SqT K H2 p [kV kv.1, kv.2]) ps' kv' := Paired.mapP q1 fun _ _ z => sqT_keep (same_keep s2) z
    have ndA : ((kv ++ kv').map (·.1)).Nodup := (p2.append q2').nodup (nodup_pre (by rw [← er2]; exact nd))
    have ndB : (kv'.map (·.1)).Nodup := by
      rw [List.map_append] at ndA
      exact (List.nodup_append.mp ndA).2.1
    have la := (p2.append q2').length
    have lb : (fs1 ++ fs2).length ≤ 1000 := by
      have := congrArg List.length er2
      rw [List.length_append] at this
      omega
    refine ⟨_, rfl, d, rfl, .inl ⟨kv, .of g2⟩, _, rfl, r', _, _, _, rfl, rfl, sqT_keep (same_keep s2) f1, atI_nat rfl, g', ps', kv', rfl, f2.keep (same_keep s2), q1', fun d2 hd2 => ?_⟩
    refine newG hd2 fun H3 s3 g3 => ?_
    rw [merge_app kv' [] (by simpa using ndB)] at g3
    have ndd : d ≠ d2 := ne_of_none g2 hd2
    refine ⟨d2, kv, kv', rfl, ndd, s3 _ _ g2, g3, by rw [← List.length_append, la]; exact sz_le (by omega), ?_⟩
    refine mutG (s3 _ _ g2) rfl fun H4 k4 g4 => ?_
    rw [merge_app kv' kv ndA] at g4
    have s4 : Same H H4 := same_over (s2.trans s3) k4 hd
    refine ⟨_, rfl, r', _, _, _, rfl, rfl, sqT_keep (same_keep s4) f1, atI_nat rfl, ?_⟩
    exact ⟨fs1 ++ fs2, t2, kv ++ kv', _, rfl, s4, g4, ((p2.append q2').keep (same_keep s3)).keep k4, hl⟩
end
end Fw
/-! Fw8: walks over locked dicts; less_those; weigh. -/
namespace Fw
open PySem PySem.Spec PyProof.Rows L2
theorem WA.off {K : PySem.W.Frag} {C : Addr} {B : Bd} {H H' : Hp} {w dk dl d : Addr} {Sl : Addr → Prop} {kn : Kn} (h : WA K C B H w dk dl Sl kn) (k : Keep (· = d) H H') (n1 : d ≠ w) (n2 : d ≠ dk) (n3 : ¬ Sl d) : WA K C B H' w dk dl Sl kn := by
  obtain ⟨dx, fs, e, f⟩ := h.ins
  exact ⟨⟨dx, fs, k.at e (fun z => n1 z.symm), f⟩, h.kn.keep k (fun z => n2 z.symm), lk_keep h.lk k (fun b z e => n3 (e ▸ z)), h.nw, h.nk, h.bN, h.bU⟩
/-- for k, v in d.items() -/
theorem lock_items {d : Addr} {kvs : KVs} {td : TE} {g : TG} {tb : TS} {D : Ends} {σ : L2.St} {H : Hp} (hd : H d = some (.dK kvs)) (Pv : Obj → Nat → L2.St → Hp → Prop)
    (htd : ∀ od (R : VK), R (V.ref d) (upd H d (.frz od (.dK kvs))) → td σ (upd H d (.frz od (.dK kvs))) R) (h0 : ∀ od, Pv od 0 σ (upd H d (.frz od (.dK kvs)))) (hl : ∀ od i σ G, Pv od i σ G → G d = some (.frz od (.dK kvs)))
    (hs : ∀ od i k v σ G T G' (r : VK) (b c : L2.St → Hp → Prop), kvs[i]? = some (k, v) → Pv od i σ G → G T = none → Same G G' → G' T = some (.tup [kV k, v]) → g (.ref T) σ G' fun σ2 G2 => tb { nx := Pv od (i + 1), rt := r, bk := b, ct := c } σ2 G2)
    (he : ∀ od σ G, Pv od kvs.length σ G → D.nx σ (upd G d (.dK kvs))) : tLock (tFor (iItems td) g tb) D σ H := by
  refine ⟨d, .dK kvs, hd, True.intro, fun od => ?_⟩
  refine htd od _ ⟨d, od, kvs, rfl, upd_same, ?_⟩
  refine ⟨fun i m σ G => m = kvs.length - i ∧ i ≤ kvs.length ∧ Pv od i σ G, ⟨kvs.length, by simp, Nat.zero_le _, h0 od⟩, ?_⟩
  rintro i m σ G ⟨rfl, hi, p⟩
  have gd := hl od i σ G p
  by_cases hlt : i < kvs.length
  · refine .inr ⟨⟨gd, hlt⟩, Pv od (i + 1), fun σ' H' p' => ⟨kvs.length - (i + 1), by omega, rfl, hlt, p'⟩, fun x H' y => ?_⟩
    obtain ⟨T, k, v, e1, e2, e3, e4⟩ := y
    subst e2
    subst e4
    exact hs od i k v σ G T _ _ _ _ e1 p e3 (keep_new (S := No) e3).toSame upd_same
  · have e : i = kvs.length := by omega
    subst e
    exact .inl ⟨⟨gd, Nat.le_refl _⟩, gd, he od σ G p⟩
/-- for k in d -/
theorem lock_keys {d : Addr} {kvs : KVs} {td : TE} {g : TG} {tb : TS} {D : Ends} {σ : L2.St} {H : Hp} (hd : H d = some (.dK kvs)) (Pv : Obj → Nat → L2.St → Hp → Prop)
    (htd : ∀ od (R : VK), R (V.ref d) (upd H d (.frz od (.dK kvs))) → td σ (upd H d (.frz od (.dK kvs))) R) (h0 : ∀ od, Pv od 0 σ (upd H d (.frz od (.dK kvs)))) (hl : ∀ od i σ G, Pv od i σ G → G d = some (.frz od (.dK kvs)))
    (hs : ∀ od i k v σ G (r : VK) (b c : L2.St → Hp → Prop), kvs[i]? = some (k, v) → Pv od i σ G → g (kV k) σ G fun σ2 G2 => tb { nx := Pv od (i + 1), rt := r, bk := b, ct := c } σ2 G2)
    (he : ∀ od σ G, Pv od kvs.length σ G → D.nx σ (upd G d (.dK kvs))) : tLock (tFor (iKeys td) g tb) D σ H := by
  refine ⟨d, .dK kvs, hd, True.intro, fun od => ?_⟩
  refine htd od _ ⟨d, od, rfl, .inl ⟨kvs, upd_same, ?_⟩⟩
  refine ⟨fun i m σ G => m = kvs.length - i ∧ i ≤ kvs.length ∧ Pv od i σ G, ⟨kvs.length, by simp, Nat.zero_le _, h0 od⟩, ?_⟩
  rintro i m σ G ⟨rfl, hi, p⟩
  have gd := hl od i σ G p
  by_cases hlt : i < kvs.length
  · refine .inr ⟨⟨gd, hlt⟩, Pv od (i + 1), fun σ' H' p' => ⟨kvs.length - (i + 1), by omega, rfl, hlt, p'⟩, fun x H' y => ?_⟩
    obtain ⟨e0, k, v, e1, e2⟩ := y
    subst e0
    subst e2
    exact hs od i k v σ _ _ _ _ e1 p
  · have e : i = kvs.length := by omega
    subst e
    exact .inl ⟨⟨gd, Nat.le_refl _⟩, gd, he od σ G p⟩
def sp_less_those (K : PySem.W.Frag) : Sp := fun vs H Q _ => ∃ (a b : Addr) (kvs more : KVs), vs = [.ref a, .ref b] ∧ a ≠ b ∧ H a = some (.dK kvs) ∧ H b = some (.dK more) ∧ (kvs = [] ∨ more = []) ∧ (kvs.map (·.1)).Nodup ∧ kvs.length ≤ 1000 ∧ (∀ e ∈ kvs, ∃ l : Str, e.1 = Sum.inr l) ∧
  ∀ p H', Same H H' → H p = none → H' p = some (.dK kvs) → Q (.ref p) H'
section
variable {P : Program} {w : World} {K : PySem.W.Frag} {mg : Str → Option Value} {base : Heap} {C : Addr}
theorem ok_less_those (D : Dfn K mg "less_those" s_less_those ["fields", "others"]) : Cal P w K mg base CX0 1 "less_those" ["fields", "others"] (sp_less_those K) := by
  have S := sc_less_those
  refine cal_of D S (fun vs H Q E h => ?_) (fun f cdv A outer s H vs Q E hr h => ?_)
  · obtain ⟨a, b, kvs, more, rfl, _⟩ := h
    rfl
  obtain ⟨a, b, kvs, more, rfl, hab, ha, hb, hem, nd, ln, hk, q⟩ := h
  have hu := hu_of hr
  refine ⟨_, (pss_cons (ps_set (i := 2) S.nd rfl (Or.inl rfl) pe_dnewK)
    (pss_cons (ps_lock (ps_for PassesOwn.never rfl (pi_items (pv 0)) (pg_tup rfl (pgs_cons (pg_name (i := 3) S.nd rfl (Or.inl rfl)) (pgs_cons (pg_name (i := 4) S.nd rfl (Or.inl rfl)) pgs_nil)))
      (pss_one (ps_if (pt_cmp (pc_dnotin hu (pv 3) (pv 1)))
        (pss_one (ps_dput hu (pv 2) (pv 3) (pv 4) rfl))
        pss_nil))))
    (pss_one (ps_ret (pv 2))))), ?_⟩
  intro p hp
  refine newG hp fun H1 s1 g1 => ?_
  have pa : p ≠ a := (ne_of_none ha hp).symm
  have ka : ∀ od, Keep (· = a) H1 (upd H1 a (.frz od (.dK kvs))) := fun od => keep_upd (s1 _ _ ha) rfl rfl
  refine lock_items (d := a) (kvs := kvs) (s1 _ _ ha) (fun od i σ G => ∃ x y, σ = [some (.ref a), some (.ref b), some (.ref p), x, y] ∧ G a = some (.frz od (.dK kvs)) ∧ (∀ c o, H c = some o → c ≠ a → G c = some o) ∧ G p = some (.dK (kvs.take i)))
    (fun od R h => ⟨_, rfl, h⟩) (fun od => ⟨none, none, rfl, upd_same, fun c o e n => by rw [upd_ne n]; exact s1 _ _ e, by rw [upd_ne pa]; exact g1⟩) (fun od i σ G ⟨_, _, _, h, _⟩ => h) ?_ ?_
  · rintro od i k v σ G T G' r bb c e1 ⟨x, y, rfl, c1, c2, c3⟩ hT s2 g2
    refine ⟨T, _, rfl, .of g2, rfl, _, _, rfl, _, _, rfl, rfl, ?_⟩
    have hm : more = [] := by
      rcases hem with h | h
      · subst h
        cases e1
      · exact h
    subst hm
    obtain ⟨l, el⟩ := hk _ (List.mem_of_getElem? e1)
    have el : k = Sum.inr l := el
    subst el
    refine ⟨_, rfl, _, rfl, b, _, rfl, DGet.k (k := Sum.inr l) (s2 _ _ (c2 _ _ hb hab.symm)), _, rfl, iteT ?_⟩
    refine ⟨_, rfl, _, rfl, _, rfl, p, _, rfl, DPut.k (k := Sum.inr l) (s2 _ _ c3) (sz_lt (by rw [List.length_take]; omega)), ?_⟩
    have ev : valV (kvs.take i) (Sum.inr l : L2.Key) = none := by
      cases q : valV (kvs.take i) (Sum.inr l : L2.Key) with
      | none => rfl
      | some u =>
        have m := valV_mem q
        obtain ⟨j, hj, ej⟩ := List.mem_iff_getElem.mp m
        rw [List.length_take] at hj
        rw [List.getElem_take] at ej
        obtain ⟨hi, ei⟩ := List.getElem?_eq_some_iff.mp e1
        have z : (kvs.map (·.1))[j]'(by simp; omega) = (kvs.map (·.1))[i]'(by simpa using hi) := by simp [ej, ei]
        have := (List.getElem_inj nd).mp z
        omega
    rw [putK_new _ ev]
    have na : p ≠ a := pa
    refine ⟨_, _, rfl, ?_, fun c o e n => ?_, ?_⟩
    · rw [upd_ne na.symm]
      exact s2 _ _ c1
    · rw [upd_ne (ne_of_none e hp)]
      exact s2 _ _ (c2 c o e n)
    · rw [upd_same, take_snoc e1]
  · rintro od σ G ⟨x, y, rfl, c1, c2, c3⟩
    refine ⟨_, rfl, q p _ (fun c o e => ?_) hp ?_⟩
    · by_cases n : c = a
      · subst n
        rw [ha] at e
        cases e
        exact upd_same
      · rw [upd_ne n]
        exact c2 c o e n
    · rw [upd_ne pa, c3, List.take_length]
/-! ### weigh -/
mutual
/-- the parts of a kind as it is known, b nowhere in it -/
inductive Wt (kn : Kn) (b : Option Nat) : Kd → Nat → Prop
  | num {k : Kd} {m : Nat} : Lup kn k .num m → Wt kn b k 1
  | var {k : Kd} {n m : Nat} : Lup kn k (.var n) m → b ≠ some n → Wt kn b k 1
  | fn {k A B : Kd} {m x y : Nat} : Lup kn k (.fn A B) m → Wt kn b A x → Wt kn b B y → Wt kn b k (1 + x + y)
  | rc {k : Kd} {fs fs' : List (Str × Kd)} {t t' : Option Nat} {m j x : Nat} : Lup kn k (.rc fs t) m → LO kn fs t fs' t' j → (fs'.map (·.1)).Nodup → fs'.length ≤ 1000 → (∀ n, t' = some n → b ≠ some n) → WtF kn b fs' x → Wt kn b k (2 + fs'.length + x)
inductive WtF (kn : Kn) (b : Option Nat) : List (Str × Kd) → Nat → Prop
  | nil : WtF kn b [] 0
  | cons {l : Str} {d : Kd} {r : List (Str × Kd)} {x y : Nat} : Wt kn b d x → WtF kn b r y → WtF kn b ((l, d) :: r) (x + y)
end
theorem Wt.pos {kn : Kn} {b : Option Nat} {k : Kd} {x : Nat} (h : Wt kn b k x) : 1 ≤ x := by
  cases h <;> omega
/-- what waits: values and their kinds -/
inductive Wl (K : PySem.W.Frag) (H : Hp) (kn : Kn) (b : Option Nat) : List V → Nat → Prop
  | nil : Wl K H kn b [] 0
  | cons {v : V} {k : Kd} {vs : List V} {x y : Nat} : IsK K H v k → Wt kn b k x → Wl K H kn b vs y → Wl K H kn b (v :: vs) (x + y)
section
variable {H H' : Hp} {kn : Kn} {b : Option Nat}
theorem Wl.keep {S : Addr → Prop} (k : Keep S H H') : ∀ {vs : List V} {x : Nat}, Wl K H kn b vs x → Wl K H' kn b vs x
  | _, _, .nil => .nil
  | _, _, .cons a b c => .cons (a.keep k) b (Wl.keep k c)
theorem Wl.app : ∀ {vs us : List V} {x y : Nat}, Wl K H kn b vs x → Wl K H kn b us y → Wl K H kn b (vs ++ us) (x + y)
  | _, _, _, _, .nil, h => by rw [Nat.zero_add]; exact h
  | _, _, _, _, .cons a b c, h => by rw [Nat.add_assoc]; exact .cons a b (Wl.app c h)
theorem Wl.len : ∀ {vs : List V} {x : Nat}, Wl K H kn b vs x → vs.length ≤ x
  | _, _, .nil => Nat.le_refl _
  | _, _, .cons a b c => by
    have h1 := b.pos
    have h2 := Wl.len c
    simp only [List.length_cons]
    omega
theorem Wl.pop : ∀ {vs : List V} {x : Nat}, Wl K H kn b vs x → vs ≠ [] → ∃ v k x1 x2, vs[vs.length - 1]? = some v ∧ IsK K H v k ∧ Wt kn b k x1 ∧ Wl K H kn b vs.dropLast x2 ∧ x = x1 + x2
  | _, _, .nil, h => absurd rfl h
  | [v], _, .cons (x := x) (y := y) a b c, _ => by
    cases c
    exact ⟨v, _, x, 0, rfl, a, b, .nil, rfl⟩
  | v :: u :: vs, _, .cons (x := x) a b c, _ => by
    obtain ⟨v', k, x1, x2, e1, e2, e3, e4, e5⟩ := Wl.pop c (by simp)
    refine ⟨v', k, x1, x + x2, ?_, e2, e3, .cons a b e4, by omega⟩
    simpa using e1
theorem wl_fields : ∀ {kvs : KVs} {fs : List (Str × Kd)} {x : Nat}, IsFd K H kvs fs → WtF kn b fs x → Wl K H kn b (kvs.map (·.2)) x
  | _, _, _, .nil, h => by cases h; exact .nil
  | _, _, _, .cons a c, h => by
    cases h with
    | cons h1 h2 => exact .cons a h1 (wl_fields c h2)
end
structure TN (K : PySem.W.Frag) (mg : Str → Option Value) (C : Addr) : Prop where
  gP : mg "NoKind" = some (.ref C)
  xP : PySem.W.excIn K C [.type "ValueError", .type "Exception", .type "BaseException", .type "object"] "ValueError.__new__" = true
  kP : PySem.W.keepIn K (.ref C) = true
  bP : PySem.W.subIn K (.ref C) (.type "BaseException") = some true
  tP : PySem.W.typeIn K (.ref C) = some (.type "type")
  eP : PySem.W.exmOne K (.ref C) (.ref C) = some true
theorem pmk_nk {X : Cx} {m : Str} {j : Nat} {p p2 pos : Pos} {C : Addr} (T : TN X.K X.mg C) (hg : Gl X "NoKind" := by rfl) : PMk X (.Call (.Name "NoKind" p) [.Constant (.str m) j p2] [] pos) (fun _ H Q => Q (.ref C) none H) :=
  pmk_own PySem.F.excBase_ValueError T.xP T.gP T.kP (raises_own T.bP T.tP) hg
def sp_weigh (K : PySem.W.Frag) (C CN : Addr) : Sp := fun vs H Q E => ∃ (w dk dl : Addr) (v : V) (k : Kd) (b : Option Nat) (x : Nat) (B : Bd) (Sl : Addr → Prop) (kn : Kn), vs = [.ref w, v, tV b] ∧ WA K C B H w dk dl Sl kn ∧ IsK K H v k ∧ Wt kn b k x ∧ x ≤ 10000 ∧
  (x ≤ 200 → ∀ H', Same H H' → Q .non H') ∧ (200 < x → ∀ H', Same H H' → E (.ref CN) none H')
end
end Fw
/-! Fw9: weigh. -/
namespace Fw
open PySem PySem.Spec PyProof.Rows L2
section
variable {P : Program} {wd : World} {K : PySem.W.Frag} {mg : Str → Option Value} {base : Heap} {C CN : Addr}
theorem ok_weigh (D : Dfn K mg "weigh" s_weigh ["wants", "told", "barred"]) (T : Txt K mg) (N : TN K mg CN) (c_looked_up : Cal P wd K mg base CX0 1 "looked_up" ["wants", "told"] (sp_looked_up K C)) (c_laid_open : Cal P wd K mg base CX0 1 "laid_open" ["wants", "row"] (sp_laid_open K C)) :
    Cal P wd K mg base (L2.CX P wd) 2 "weigh" ["wants", "told", "barred"] (sp_weigh K C CN) := by
  have S := sc_weigh
  obtain ⟨tM, hM⟩ := T.mgMOST
  refine cal_ofX D S (fun vs H Q E h => ?_) (fun f cdv A outer s H vs Q E hr h => ?_)
  · obtain ⟨w, dk, dl, v, k, b, x, B, Sl, kn, rfl, _⟩ := h
    rfl
  obtain ⟨w, dk, dl, v, k, b, tot, B, Sl, kn, rfl, W, hv, hw, hx, q1, q2⟩ := h
  have hu := hu_of hr
  have tk : Takes (cxOf (L2.CX P wd) P wd K mg base ["wants", "told", "barred", "many", "waiting", "held", "fields", "tail"] "weigh" (defScope s_weigh) f cdv A outer s H E) (fun cls d _ H' => E cls d H') := takes_of rfl rfl rfl rfl
  refine ⟨_, (pss_cons (ps_set (i := 3) S.nd rfl (Or.inl rfl) pe_int)
    (pss_cons (ps_set (i := 4) S.nd rfl (Or.inl rfl) (pe_lst (pa_cons (pv 1) pa_nil)))
    (pss_one (ps_while (passes_of rfl) (pt_cmpR op_gt (pe_callB call_len_seq rfl T.len PySem.boot_len (pa_cons (pv 4) pa_nil)) pe_int (nomark _))
      (pss_cons (ps_set (i := 5) S.nd rfl (Or.inl rfl) (pe_cal c_looked_up hr pass0 (pa_cons (pv 0) (pa_cons (pe_bm0 PySem.F.plainAttrs_list PySem.F.slot_list_pop PySem.F.type_list_pop mt_pop (pv 4)) pa_nil))))
      (pss_cons (ps_aug (i := 3) S.nd rfl (Or.inl rfl) pe_int ip_add)
      (pss_cons (ps_if (pt_cmpR op_eq (pe_ix ix_tup (pv 5) pe_int (fun _ _ => rfl)) pe_str (nomark _))
        (pss_one (ps_expr (pe_bm PySem.F.plainAttrs_list PySem.F.slot_list_extend PySem.F.type_list_extend mt_extend (pv 4) (pa_cons (pe_lst (pa_cons (pe_ix ix_tup (pv 5) pe_int (fun _ _ => rfl)) (pa_cons (pe_ix ix_tup (pv 5) pe_int (fun _ _ => rfl)) pa_nil))) pa_nil))))
        (pss_one (ps_if (pt_cmpR op_eq (pe_ix ix_tup (pv 5) pe_int (fun _ _ => rfl)) pe_str (nomark _))
          (pss_one (ps_if (pt_cmpR op_eq (pe_ix ix_tup (pv 5) pe_int (fun _ _ => rfl)) (pv 2) (nomark _))
            (pss_one (ps_raise rfl tk (pmk_nk N)))
            pss_nil))
          (pss_one (ps_if (pt_cmpR op_ne (pe_ix ix_tup (pv 5) pe_int (fun _ _ => rfl)) pe_str (nomark _))
            (pss_cons (ps_asg (pe_cal c_laid_open hr pass0 (pa_cons (pv 0) (pa_cons (pe_ix ix_tup (pv 5) pe_int (fun _ _ => rfl)) pa_nil))) (pg_tup rfl (pgs_cons (pg_name (i := 6) S.nd rfl (Or.inl rfl)) (pgs_cons (pg_name (i := 7) S.nd rfl (Or.inl rfl)) pgs_nil))))
            (pss_cons (ps_aug (i := 3) S.nd rfl (Or.inl rfl) (pe_op op_add pe_int (pe_callB call_lenD rfl T.len PySem.boot_len (pa_cons (pv 6) pa_nil))) ip_add)
            (pss_cons (ps_expr (pe_bm PySem.F.plainAttrs_list PySem.F.slot_list_extend PySem.F.type_list_extend mt_extend (pv 4) (pa_cons (pe_listVals rfl T.list (pv 6)) pa_nil)))
            (pss_one (ps_if (PW.pt (pw_and (pt_cmpR op_notN (pv 7) pe_non (nomark _)) (pw_and1 (pt_cmpR op_eq (pv 7) (pv 2) (nomark _)))))
              (pss_one (ps_raise rfl tk (pmk_nk N)))
              pss_nil)))))
            pss_nil)))))
      (pss_one (ps_if (pt_cmpR op_gt (pv 3) (pe_glob (v := V.int 200) rfl hM ⟨_, rfl⟩) (nomark _))
        (pss_one (ps_raise rfl tk (pmk_nk N)))
        pss_nil))))))))), ?_⟩
  refine ⟨_, rfl, (by show 1 ≤ sizeLine; decide), fun L hL => ?_⟩
  refine newG hL fun H1 s1 g1 => ?_
  -- the loop
  let Wi : Nat → L2.St → Hp → Prop := fun m σ G => ∃ (n : Nat) (xs : List V) (a1 a2 a3 : Option V), σ = [some (.ref w), some v, some (tV b), some (.int (n : Int)), some (.ref L), a1, a2, a3] ∧ Same H G ∧ G L = some (.lst xs) ∧ Wl K G kn b xs m ∧ n + m = tot ∧ n ≤ 200
  refine ⟨Wi, ⟨tot, 0, [v], none, none, none, rfl, s1, g1, ?_, by omega, by omega⟩, ?_⟩
  · have := Wl.cons (hv.keep (same_keep s1)) hw (.nil (K := K) (H := H1) (kn := kn) (b := b))
    simpa using this
  rintro m σ G ⟨n, xs, a1, a2, a3, rfl, sG, gL, wl, htot, hn⟩
  have ln := wl.len
  refine ⟨_, rfl, L, xs, rfl, .inl (.of gL), _, _, rfl, rfl, _, rfl, ?_⟩
  by_cases hxs : xs = []
  · subst hxs
    cases wl
    refine iteF ?_
    exact q1 (by omega) G sG
  have hpos : 0 < xs.length := List.length_pos_iff.mpr hxs
  have dt : decide ((0 : Int) < (xs.length : Int)) = true := decide_eq_true (by omega)
  rw [dt]
  refine iteT ⟨fun σ' G' => ∃ m', m' < m ∧ Wi m' σ' G', fun σ' G' z => z, ?_⟩
  obtain ⟨u, k1, x1, x2, e1, e2, e3, e4, e5⟩ := wl.pop hxs
  -- waiting.pop()
  refine ⟨_, rfl, _, rfl, .inl ⟨rfl, _, SqL.of gL⟩, L, xs, u, rfl, rfl, gL, e1, ?_⟩
  refine mutG gL rfl fun G1 kG1 gL1 => ?_
  have sG1 : Same H G1 := same_over sG kG1 hL
  have W1 := W.same sG1
  -- what follows once the parts are told
  have fin : ∀ (n2 m2 : Nat) (zi : Int) (G2 : Hp) (xs2 : List V) (b1 b2 b3 : Option V), zi = (n2 : Int) → m2 < m → n2 + m2 = tot → Same H G2 → G2 L = some (.lst xs2) → Wl K G2 kn b xs2 m2 →
      tIfS (tTest (tOp (rI0 fun i j => .bl (decide (j < i))) (tVar 3) (tC (.int 200)))) (fun D σ H' => (fun _ Ha => (fun cls d Hb => E cls d Hb) (Value.ref CN) none Ha) σ H') tNext
        { nx := fun σ' G' => ∃ m', m' < m ∧ Wi m' σ' G', rt := Q, bk := fun _ H' => Q .non H', ct := fun σ' G' => ∃ m', m' < m ∧ Wi m' σ' G' } [some (.ref w), some v, some (tV b), some (.int zi), some (.ref L), b1, b2, b3] G2 := by
    intro n2 m2 zi G2 xs2 b1 b2 b3 h0 h1 h2 h3 h4 h5
    subst h0
    refine ⟨_, rfl, _, _, rfl, rfl, _, rfl, ?_⟩
    by_cases hc : 200 < n2
    · have e : decide ((200 : Int) < (n2 : Int)) = true := decide_eq_true (by omega)
      rw [e]
      exact iteT (q2 (by omega) G2 h3)
    · have e : decide ((200 : Int) < (n2 : Int)) = false := decide_eq_false (by omega)
      rw [e]
      exact iteF ⟨m2, h1, n2, xs2, b1, b2, b3, rfl, h3, h4, h5, h2, by omega⟩
  cases e3 with
  | @num _ j hl =>
    refine ⟨w, dk, dl, u, k1, .num, j, B, Sl, kn, rfl, W1, e2.keep kG1, hl, fun v' h' => ?_⟩
    cases h' with
    | @num p g =>
      refine ⟨_, rfl, _, _, rfl, rfl, ?_⟩
      refine ⟨_, rfl, p, _, _, _, rfl, rfl, g, atI_nat rfl, rfl, _, rfl, iteF ?_⟩
      refine ⟨_, rfl, p, _, _, _, rfl, rfl, g, atI_nat rfl, rfl, _, rfl, iteF ?_⟩
      refine ⟨_, rfl, p, _, _, _, rfl, rfl, g, atI_nat rfl, rfl, _, rfl, iteF ?_⟩
      exact fin (n + 1) x2 _ G1 _ _ _ _ (by simp) (by omega) (by omega) sG1 gL1 (e4.keep kG1)
  | @var _ j i hl hb =>
    refine ⟨w, dk, dl, u, k1, .var j, i, B, Sl, kn, rfl, W1, e2.keep kG1, hl, fun v' h' => ?_⟩
    cases h' with
    | @var p _ g =>
      refine ⟨_, rfl, _, _, rfl, rfl, ?_⟩
      refine ⟨_, rfl, p, _, _, _, rfl, rfl, g, atI_nat rfl, rfl, _, rfl, iteF ?_⟩
      refine ⟨_, rfl, p, _, _, _, rfl, rfl, g, atI_nat rfl, rfl, _, rfl, iteT ?_⟩
      refine ⟨_, rfl, p, _, _, _, rfl, rfl, g, atI_nat rfl, _, rfl, ?_, _, rfl, ?_⟩
      · cases b <;> rfl
      have ne : decide (V.int (j : Int) = tV b) = false := by
        refine decide_eq_false ?_
        cases b with
        | none => exact fun z => by cases z
        | some b =>
          intro z
          have z : (V.int (j : Int)) = V.int (b : Int) := z
          have z := V.int.inj z
          exact hb (by congr 1; omega)
      rw [ne]
      refine iteF ?_
      exact fin (n + 1) x2 _ G1 _ _ _ _ (by simp) (by omega) (by omega) sG1 gL1 (e4.keep kG1)
  | @fn _ A1 B1 i y1 y2 hl f1 f2 =>
    refine ⟨w, dk, dl, u, k1, .fn A1 B1, i, B, Sl, kn, rfl, W1, e2.keep kG1, hl, fun v' h' => ?_⟩
    cases h' with
    | @fn p a c _ _ g g1 g2 =>
      refine ⟨_, rfl, _, _, rfl, rfl, ?_⟩
      refine ⟨_, rfl, p, _, _, _, rfl, rfl, g, atI_nat rfl, rfl, _, rfl, iteT ?_⟩
      refine ⟨_, rfl, .inl ⟨rfl, _, SqL.of gL1⟩, _, rfl, p, _, _, _, rfl, rfl, g, atI_nat rfl, _, rfl, p, _, _, _, rfl, rfl, g, atI_nat rfl, (by show 2 ≤ sizeLine; decide), fun q0 n0 => ?_⟩
      refine newG n0 fun G2 sG2 h2 => ?_
      have lD : xs.dropLast.length ≤ 10000 := by rw [List.length_dropLast]; omega
      refine ⟨L, q0, _, _, rfl, rfl, sG2 _ _ gL1, h2, sz_le (by simp only [List.length_cons, List.length_nil]; omega), ?_⟩
      refine mutG (sG2 _ _ gL1) rfl fun G3 kG3 gL3 => ?_
      have sG3 : Same H G3 := same_over (sG1.trans sG2) kG3 hL
      have kk : Keep (· = L) G1 G3 := (same_keep sG2).mono (fun _ z => z.elim) |>.tr kG3
      have wl2 : Wl K G3 kn b (xs.dropLast ++ [a, c]) (x2 + (y1 + (y2 + 0))) := ((e4.keep kG1).keep kk).app (.cons (g1.keep kk) f1 (.cons (g2.keep kk) f2 .nil))
      exact fin (n + 1) (x2 + (y1 + (y2 + 0))) _ G3 _ _ _ _ (by simp) (by omega) (by omega) sG3 gL3 wl2
  | @rc _ fs fs' t t' i j y hl hLO nd lf hb hF =>
    refine ⟨w, dk, dl, u, k1, .rc fs t, i, B, Sl, kn, rfl, W1, e2.keep kG1, hl, fun v' h' => ?_⟩
    cases h' with
    | @rc p r g vs _ _ c1 c2 c3 c4 =>
      refine ⟨_, rfl, _, _, rfl, rfl, ?_⟩
      refine ⟨_, rfl, p, _, _, _, rfl, rfl, c1, atI_nat rfl, rfl, _, rfl, iteF ?_⟩
      refine ⟨_, rfl, p, _, _, _, rfl, rfl, c1, atI_nat rfl, rfl, _, rfl, iteF ?_⟩
      refine ⟨_, rfl, p, _, _, _, rfl, rfl, c1, atI_nat rfl, rfl, _, rfl, iteT ?_⟩
      refine ⟨_, rfl, _, rfl, p, _, _, _, rfl, rfl, c1, atI_nat rfl, w, dk, dl, .ref r, fs, fs', t, t', j, B, Sl, kn, rfl, W1, ⟨r, g, vs, rfl, c2, c3, c4⟩, hLO, nd, lf, fun pt d kvs G2 sG2 np ndd h1 h2 h3 => ?_⟩
      refine ⟨pt, _, rfl, .of h1, rfl, _, _, rfl, _, _, rfl, rfl, ?_⟩
      have lk := h3.length
      refine ⟨_, rfl, _, rfl, d, kvs, rfl, h2, _, _, rfl, rfl, _, _, rfl, rfl, ?_⟩
      have cast2 : (((n : Int) + 1) + (1 + (kvs.length : Int))) = ((n + 2 + fs'.length : Nat) : Int) := by omega
      have gL2 := sG2 _ _ gL1
      refine ⟨_, rfl, .inl ⟨rfl, _, SqL.of gL2⟩, _, rfl, d, kvs, rfl, h2, fun q0 n0 => ?_⟩
      refine newG n0 fun G3 sG3 h3' => ?_
      have lD : xs.dropLast.length ≤ 10000 := by rw [List.length_dropLast]; omega
      refine ⟨L, q0, _, _, rfl, rfl, sG3 _ _ gL2, h3', sz_le (by rw [List.length_map]; omega), ?_⟩
      refine mutG (sG3 _ _ gL2) rfl fun G4 kG4 gL4 => ?_
      have sG4 : Same H G4 := same_over (sG1.trans (sG2.trans sG3)) kG4 hL
      have kk : Keep (· = L) G1 G4 := (same_keep (sG2.trans sG3)).mono (fun _ z => z.elim) |>.tr kG4
      have kk2 : Keep (· = L) G2 G4 := (same_keep sG3).mono (fun _ z => z.elim) |>.tr kG4
      have wl2 : Wl K G4 kn b (xs.dropLast ++ kvs.map (·.2)) (x2 + y) := ((e4.keep kG1).keep kk).app ((wl_fields h3 hF).keep kk2)
      have go := fun b1 b2 b3 => fin (n + 2 + fs'.length) (x2 + y) _ G4 _ b1 b2 b3 cast2 (by omega) (by omega) sG4 gL4 wl2
      refine ⟨_, rfl, rfl, _, rfl, ?_⟩
      cases t' with
      | none => exact iteF (iteF (go _ _ _))
      | some t' =>
        refine iteT ⟨_, rfl, _, rfl, ?_, _, rfl, ?_⟩
        · cases b <;> rfl
        have ne : decide (V.int (t' : Int) = tV b) = false := by
          refine decide_eq_false ?_
          cases b with
          | none => exact fun z => by cases z
          | some b =>
            intro z
            have z : (V.int (t' : Int)) = V.int (b : Int) := z
            have z := V.int.inj z
            exact hb t' rfl (by congr 1; omega)
        have ne' : decide (tV (some t') = tV b) = false := ne
        rw [ne']
        exact iteF (go _ _ _)
end
end Fw
/-! Fw10: fill_kind, fill_row. -/
namespace Fw
open PySem PySem.Spec PyProof.Rows L2
abbrev s_fill_kind : Stmt := top 18
theorem sc_fill_kind : FnScope ["wants", "number", "told"] ["wants", "number", "told"] (defScope s_fill_kind) := ⟨rfl, rfl, rfl, by decide +kernel, rfl, by decide +kernel, by decide +kernel⟩
abbrev s_fill_row : Stmt := top 19
theorem sc_fill_row : FnScope ["wants", "number", "fields", "tail", "lacked", "label", "held"] ["wants", "number", "fields", "tail"] (defScope s_fill_row) := ⟨rfl, rfl, rfl, by decide +kernel, rfl, by decide +kernel, by decide +kernel⟩
def sp_fill_kind (K : PySem.W.Frag) (C : Addr) : Sp := fun vs H Q _ => ∃ (w dk dl : Addr) (v : V) (r : Kd) (m x : Nat) (B : Bd) (Sl : Addr → Prop) (kn : Kn), vs = [.ref w, .int (m : Int), v] ∧ WA K C B H w dk dl Sl kn ∧ IsK K H v r ∧ Wt kn (some m) r x ∧ x ≤ 200 ∧ m < B.N ∧
  ∀ H', Keep (· = dk) H H' → WA K C B H' w dk dl Sl (kn.put m (.kd r)) → Q .non H'
def sp_fill_row (K : PySem.W.Frag) (C : Addr) : Sp := fun vs H Q _ => ∃ (w dk dl d : Addr) (t : Nat) (tl : Option Nat) (kvs : KVs) (fs : List (Str × Kd)) (B : Bd) (Sl : Addr → Prop) (kn : Kn), vs = [.ref w, .int (t : Int), .ref d, tV tl] ∧ WA K C B H w dk dl Sl kn ∧ H d = some (.dK kvs) ∧ IsFd K H kvs fs ∧
  fs.length ≤ 1 ∧ d ≠ dk ∧ ¬ Sl d ∧ t < B.N ∧ (∀ l a, (l, a) ∈ fs → ¬ B.Lk t l ∧ l ∈ B.U ∧ ∃ x, x ≤ 200 ∧ Wt kn (some t) a x) ∧ (∀ n, tl = some n → n < B.N ∧ B.Tk n ∧ ∀ l, B.Lk t l ∨ l ∈ fs.map (·.1) → B.Lk n l) ∧
  ∀ Sl' H', WStep (Ft dk Sl) H (Ft dk Sl') H' → WA K C B H' w dk dl Sl' (kn.put t (.row fs tl)) → Q .non H'
section
variable {P : Program} {wd : World} {K : PySem.W.Frag} {mg : Str → Option Value} {base : Heap} {C CN : Addr}
theorem ok_fill_kind (D : Dfn K mg "fill_kind" s_fill_kind ["wants", "number", "told"]) (T : TW K mg C) (c_weigh : Cal P wd K mg base (L2.CX P wd) 2 "weigh" ["wants", "told", "barred"] (sp_weigh K C CN)) :
    Cal P wd K mg base CX0 3 "fill_kind" ["wants", "number", "told"] (sp_fill_kind K C) := by
  have S := sc_fill_kind
  refine cal_of D S (fun vs H Q E h => ?_) (fun f cdv A outer s H vs Q E hr h => ?_)
  · obtain ⟨w, dk, dl, v, r, m, x, B, Sl, kn, rfl, _⟩ := h
    rfl
  obtain ⟨w, dk, dl, v, r, m, x, B, Sl, kn, rfl, W, hv, hw, hx, hm, q⟩ := h
  have hu := hu_of hr
  refine ⟨_, (pss_cons (ps_expr (pe_cal c_weigh hr passL (pa_cons (pv 0) (pa_cons (pv 2) (pa_cons (pv 1) pa_nil)))))
    (pss_one (ps_dput hu (pe_fld (pv 0) rfl) (pv 1) (pv 2) rfl))), ?_⟩
  refine ⟨_, rfl, _, rfl, _, rfl, w, dk, dl, v, r, some m, x, B, Sl, kn, rfl, W, hv, hw, by omega, fun _ H1 s1 => ?_, fun h => absurd h (by omega)⟩
  have W1 := W.same s1
  obtain ⟨dx, fs, e, f⟩ := id W1.ins
  refine ⟨_, rfl, _, rfl, w, C, dx, fs, _, rfl, e, T.cl, T.nK, f.known, _, rfl, dk, ?_⟩
  obtain ⟨H4, d4, q4⟩ := knAt_put (Q := fun H4 => Q .non H4) (e := .kd r) W1.kn hm W.bN (hv.keep (same_keep s1)) fun H4 k4 n4 => q H4 ((same_keep s1).mono (fun _ z => z.elim) |>.tr k4) (W1.kput k4 n4)
  exact ⟨H4, rfl, d4, q4⟩
theorem eqV_str {a b : Str} (h : eqV (.str a) (.str b) = true) : a = b := by
  have h : (a == b) = true := h
  exact eq_of_beq h
theorem not_inV {l : Str} {ls : List Str} (h : l ∉ ls) : inV (.str l) (ls.map V.str) = false := by
  cases e : inV (.str l) (ls.map V.str) with
  | false => rfl
  | true =>
    obtain ⟨y, hy, ey⟩ := List.any_eq_true.mp e
    obtain ⟨z, hz, rfl⟩ := List.mem_map.mp hy
    exact absurd (eqV_str ey ▸ hz) h
theorem flat_strs (ls : List Str) : (ls.map V.str).all flatV = true := by
  rw [List.all_eq_true]
  intro x hx
  obtain ⟨z, _, rfl⟩ := List.mem_map.mp hx
  rfl
theorem IsFd.get {K : PySem.W.Frag} {H : Hp} : ∀ {kvs : KVs} {fs : List (Str × Kd)} {i : Nat} {k : L2.Key} {v : V}, IsFd K H kvs fs → kvs[i]? = some (k, v) → ∃ l a, (l, a) ∈ fs ∧ k = Sum.inr l ∧ IsK K H v a
  | _, _, _, _, _, .nil, e => by simp at e
  | _, _, 0, _, _, .cons a c, e => by
    simp at e
    obtain ⟨rfl, rfl⟩ := e
    exact ⟨_, _, List.mem_cons_self, rfl, a⟩
  | _, _, i + 1, _, _, .cons a c, e => by
    obtain ⟨l, d, h1, h2, h3⟩ := c.get (i := i) (by simpa using e)
    exact ⟨l, d, List.mem_cons_of_mem _ h1, h2, h3⟩
theorem fd_keys : ∀ {H : Hp} {kvs : KVs} {fs : List (Str × Kd)}, IsFd K H kvs fs → (kvs.map fun kv => kV kv.1) = (fs.map (·.1)).map V.str
  | _, _, _, .nil => rfl
  | _, _, _, .cons a c => by
    rw [List.map_cons, fd_keys c]
    rfl
theorem room_d {k : Nat} {A : Around} (r : Room k A) : A.depth + 2 < recursionLimit := by have := r.dp; omega
theorem room_u {k : Nat} {A : Around} (r : Room k A) : A.units + 64 < cLine := by have := r.un; omega
theorem keep_of_locked {d : Addr} {kvs : KVs} {H G : Hp} (k : Keep (· = d) H G) (hd : H d = some (.dK kvs)) : Same H (upd G d (.dK kvs)) := fun c o e => by
  by_cases n : c = d
  · subst n
    rw [hd] at e
    cases e
    exact upd_same
  · rw [upd_ne n]
    exact k.at e n
theorem ok_fill_row (D : Dfn K mg "fill_row" s_fill_row ["wants", "number", "fields", "tail"]) (DL : Dfn K mg "label_of" s_label_of ["field"]) (T : Txt K mg) (T' : TW K mg C) (c_weigh : Cal P wd K mg base (L2.CX P wd) 2 "weigh" ["wants", "told", "barred"] (sp_weigh K C CN))
    (c_lacked : CalM P wd K mg base CX0 1 C "lacked" ["self", "tail"] (sp_lacked K C)) (c_must_lack : CalM P wd K mg base CX0 1 C "must_lack" ["self", "tail", "labels"] (sp_must_lack K C)) :
    Cal P wd K mg base CX0 3 "fill_row" ["wants", "number", "fields", "tail"] (sp_fill_row K C) := by
  have S := sc_fill_row
  refine cal_of D S (fun vs H Q E h => ?_) (fun f cdv A outer s H vs Q E hr h => ?_)
  · obtain ⟨w, dk, dl, d, t, tl, kvs, fs, B, Sl, kn, rfl, _⟩ := h
    rfl
  obtain ⟨w, dk, dl, d, t, tl, kvs, fs, B, Sl, kn, rfl, W, hd, hf, hl, n1, n2, ht, hfs, htl, q⟩ := h
  have hu := hu_of hr
  obtain ⟨fl, fdl, FL, mgl, _⟩ := DL.ex
  refine ⟨_, (pss_cons (ps_set (i := 4) S.nd rfl (Or.inl rfl) (pe_met (pv 0) T'.cl c_lacked (hr.mono (by decide)) pass0 (pa_cons (pv 1) pa_nil)))
    (pss_cons (ps_lock (ps_for PassesOwn.never rfl (pi_items (pv 2)) (pg_tup rfl (pgs_cons (pg_name (i := 5) S.nd rfl (Or.inl rfl)) (pgs_cons (pg_name (i := 6) S.nd rfl (Or.inl rfl)) pgs_nil)))
      (pss_cons (ps_if (pt_cmpR op_in_seq (pv 5) (pv 4) (by rfl))
        pss_never
        pss_nil)
      (pss_one (ps_expr (pe_cal c_weigh hr passL (pa_cons (pv 0) (pa_cons (pv 6) (pa_cons (pv 1) pa_nil)))))))))
    (pss_cons (ps_expr (pe_met (pv 0) T'.cl c_must_lack (hr.mono (by decide)) pass0 (pa_cons (pv 3) (pa_cons (pe_op op_cat (pv 4) (pe_callTy (call_list_dK rfl) rfl T.list (by decide +kernel) (pa_cons (pv 2) pa_nil))) pa_nil))))
    (pss_one (ps_dput hu (pe_fld (pv 0) rfl) (pv 1) (pe_tup (pa_cons pe_str (pa_cons (pe_callTy call_tupleP rfl T.tuple (by decide +kernel) (pa_cons (pe_sortedIt rfl T.sorted FL mgl (room_d hr) (room_u hr) (pv 2)) pa_nil)) (pa_cons (pv 3) pa_nil)))) rfl))))), ?_⟩
  obtain ⟨dx, gs, e, f⟩ := id W.ins
  have ndw : d ≠ w := ne_of hd e (by intro z; cases z)
  refine ⟨_, rfl, w, dx, gs, rfl, e, f.m2, _, rfl, w, dk, dl, t, B, Sl, kn, rfl, W, fun p H1 ls s1 np h1 hls hln => ?_⟩
  have npd : p ≠ d := (ne_of_none hd np).symm
  have W1 := W.same s1
  refine lock_items (d := d) (kvs := kvs) (s1 _ _ hd) (fun od i σ G => ∃ x y, σ = [some (.ref w), some (.int (t : Int)), some (.ref d), some (tV tl), some (.ref p), x, y] ∧ G d = some (.frz od (.dK kvs)) ∧ Keep (· = d) H1 G)
    (fun od R h => ⟨_, rfl, h⟩) (fun od => ⟨none, none, rfl, upd_same, keep_upd (s1 _ _ hd) rfl rfl⟩) (fun od i σ G ⟨_, _, _, h, _⟩ => h) ?_ ?_
  · rintro od i k v σ G T2 G' r bb c e1 ⟨x, y, rfl, c1, c2⟩ hT s2 g2
    refine ⟨T2, _, rfl, .of g2, rfl, _, _, rfl, _, _, rfl, rfl, ?_⟩
    have c3 : Keep (· = d) H1 G' := c2.trN (same_keep s2)
    obtain ⟨l, a, q1, q2, q3⟩ := hf.get e1
    subst q2
    obtain ⟨r1, r2, x0, r3, r4⟩ := hfs l a q1
    have hp : G' p = some (.lst (ls.map V.str)) := c3.at h1 npd
    refine ⟨_, rfl, _, rfl, p, _, rfl, .inl (.of hp), rfl, flat_strs ls, ?_⟩
    have nl : inV (.str l) (ls.map V.str) = false := not_inV fun z => r1 (hls l z).2
    have nl' : (if false = true then !inV (kV (Sum.inr l : L2.Key)) (List.map V.str ls) else inV (kV (Sum.inr l : L2.Key)) (List.map V.str ls)) = false := nl
    rw [nl']
    refine ⟨_, rfl, iteF ?_⟩
    refine ⟨_, rfl, _, rfl, _, rfl, w, dk, dl, v, a, some t, x0, B, Sl, kn, rfl, W1.off c3 ndw n1 n2, (q3.keep (same_keep s1)).keep c3, r4, by omega, fun _ H2 s3 => ?_, fun h => absurd h (by omega)⟩
    exact ⟨_, _, rfl, s3 _ _ (s2 _ _ c1), c3.trN (same_keep s3)⟩
  · rintro od σ G ⟨x, y, rfl, c1, c2⟩
    have s2 := keep_of_locked c2 (s1 _ _ hd)
    have W2 := W1.same s2
    have s2' := s1.trans s2
    have e2 := s2' _ _ e
    refine ⟨_, rfl, w, dx, gs, rfl, e2, f.m1, _, rfl, _, rfl, _, rfl, d, kvs, rfl, s2' _ _ hd, fun p2 n2' => ?_⟩
    refine newG n2' fun H3 s3 h3 => ?_
    have lk := hf.length
    have keys := fd_keys hf
    rw [keys] at h3
    refine ⟨p, p2, _, _, rfl, rfl, s3 _ _ (s2 _ _ h1), h3, sz_le (by rw [List.length_map, List.length_map, List.length_map]; have := W.bU; omega), fun p3 n3 => ?_⟩
    refine newG n3 fun H4 s4 h4 => ?_
    rw [← List.map_append] at h4
    have W4 := (W2.same s3).same s4
    refine ⟨w, dk, dl, p3, tl, ls ++ fs.map (·.1), B, Sl, kn, rfl, W4, h4, fun n hn => ?_, fun Sl' H5 k5 L5 => ?_⟩
    · obtain ⟨b1, b2, b3⟩ := htl n hn
      refine ⟨b1, b2, fun l hl' => ?_⟩
      rcases List.mem_append.mp hl' with z | z
      · exact ⟨(hls l z).1, b3 l (.inl (hls l z).2)⟩
      · refine ⟨?_, b3 l (.inr z)⟩
        obtain ⟨⟨l', a⟩, z1, z2⟩ := List.mem_map.mp z
        have z2 : l' = l := z2
        subst z2
        exact (hfs l' a z1).2.1
    · have W5 := W4.lput k5 L5
      obtain ⟨dx5, gs5, e5, f5⟩ := id W5.ins
      have sd : Same H H4 := (s2'.trans s3).trans s4
      have hd5 : H5 d = some (.dK kvs) := k5.1.at (sd _ _ hd) n2
      have nS5 : ¬ Sl' d := fun z => (k5.2 d z).elim n2 fun z => by rw [sd _ _ hd] at z; cases z
      have hfin : ∀ (L : Addr) (us : List V) (H6 : Hp), Same H5 H6 → H6 L = some (.lst us) → IsFs K H6 us fs → ∀ l : Addr, H6 l = none → ∀ o : Obj, o.dict = none → ∀ (pt : Addr), (upd H6 l (.frz o (.tup us))) pt = none →
          ∃ H8, DPut (upd (upd H6 l (.frz o (.tup us))) pt (.tup [.str "row", .ref l, tV tl])) dk (.int (t : Int)) (.ref pt) H8 ∧ Q .non H8 := by
        intro L us H6 s6 h6 g6 l hl o ho pt hpt
        refine newG (R := fun H7 => ∃ H8, DPut H7 dk (.int (t : Int)) (.ref pt) H8 ∧ Q .non H8) hpt fun H7 s7 h7 => ?_
        have s67 : Same H6 H7 := fun b u e => s7 _ _ (by rw [upd_ne (ne_of_none e hl)]; exact e)
        have hl7 : H7 l = some (.frz o (.tup us)) := s7 _ _ upd_same
        have W7 := W5.same (s6.trans s67)
        exact knAt_put (Q := fun H8 => Q .non H8) (e := .row fs tl) W7.kn ht W7.bN ⟨pt, l, us, rfl, .of h7, ⟨o, hl7, ho⟩, g6.keep (same_keep s67)⟩ fun H8 k8 n8 => by
          refine q Sl' H8 ?_ (W7.kput k8 n8)
          have a1 : WStep (Ft dk Sl) H (Ft dk Sl) H4 := ⟨(same_keep sd).mono (fun _ z => z.elim), fun _ z => .inl z⟩
          have a2 : WStep (Ft dk Sl) H4 (Ft dk Sl') H5 := ⟨k5.1.mono fun _ z => .inr z, fun b z => z.elim (fun z => .inl (.inl z)) fun z => (k5.2 b z).imp .inr id⟩
          have a3 : WStep (Ft dk Sl') H5 (Ft dk Sl') H7 := ⟨(same_keep (s6.trans s67)).mono (fun _ z => z.elim), fun _ z => .inl z⟩
          have a4 : WStep (Ft dk Sl') H7 (Ft dk Sl') H8 := ⟨k8.mono fun _ z => .inl z, fun _ z => .inl z⟩
          exact ((a1.trans a2).trans a3).trans a4
      have hw8 : ∀ (l pt : Addr) (a b : HO) (H6 : Hp), Same H5 H6 → H6 l = none → (upd H6 l a) pt = none → (upd (upd H6 l a) pt b) w = some (.ins C dx5 gs5) := fun l pt a b H6 s6 nl npt => by
        have z : (upd H6 l a) w = some (.ins C dx5 gs5) := by
          rw [upd_ne (ne_of_none (s6 _ _ e5) nl)]
          exact s6 _ _ e5
        rw [upd_ne (ne_of_none z npt)]
        exact z
      have hlb : IsFd K H5 kvs fs := (hf.keep (same_keep sd)).keep k5.1
      refine ⟨_, rfl, d, kvs, rfl, hd5, ?_⟩
      cases hlb with
      | nil =>
        refine .inl ⟨rfl, fun q1 n6 => ?_⟩
        refine newG n6 fun H6 s6 h6 => ?_
        refine ⟨q1, [], rfl, .of h6, fun l o nl ol => ⟨_, rfl, (by show 3 ≤ sizeLine; decide), fun pt npt => ?_⟩⟩
        obtain ⟨H8, d8, q8⟩ := hfin q1 [] H6 s6 h6 .nil l nl o ol pt npt
        refine ⟨_, rfl, w, C, dx5, gs5, _, rfl, hw8 l pt _ _ H6 s6 nl npt, T'.cl, T'.nK, f5.known, _, rfl, dk, H8, rfl, d8, q8⟩
      | @cons l v a kvs' fs' ha hr' =>
        cases hr' with
        | cons _ _ => simp only [List.length_cons] at hl; omega
        | nil =>
        refine .inr ⟨l, v, rfl, fun t1 q1 n5 n6 ntq => ?_⟩
        have n6' : (upd H5 t1 (.tup [.str l, v])) q1 = none := by rw [upd_ne ntq.symm]; exact n6
        have s6 : Same H5 (upd H5 t1 (.tup [.str l, v])) := (keep_new (S := No) n5).toSame
        have h6 : (upd H5 t1 (.tup [.str l, v])) t1 = some (.tup [.str l, v]) := upd_same
        refine newG n6' fun H7 s7 h7 => ?_
        refine ⟨q1, [.ref t1], rfl, .of h7, fun l2 o nl ol => ⟨_, rfl, (by show 3 ≤ sizeLine; decide), fun pt npt => ?_⟩⟩
        obtain ⟨H8, d8, q8⟩ := hfin q1 [.ref t1] H7 (s6.trans s7) h7 (.cons (.of (s7 _ _ h6)) (ha.keep (same_keep (s6.trans s7))) .nil) l2 nl o ol pt npt
        refine ⟨_, rfl, w, C, dx5, gs5, _, rfl, hw8 l2 pt _ _ H7 (s6.trans s7) nl npt, T'.cl, T'.nK, f5.known, _, rfl, dk, H8, rfl, d8, q8⟩
end
end Fw
/-! Fw11: meet_tails, meet_rows, meet. -/
namespace Fw
open PySem PySem.Spec PyProof.Rows L2
/-! ### kinds as nested data -/
def tD : Option Nat → PyData
  | none => .none
  | some n => .int n
mutual
def Kd.dat : Kd → PyData
  | .num => .tuple [.str "num"]
  | .var n => .tuple [.str "var", .int n]
  | .fn a b => .tuple [.str "fun", a.dat, b.dat]
  | .rc fs t => .tuple [.str "rec", .tuple [.str "row", .tuple (datF fs), tD t]]
def datF : List (Str × Kd) → List PyData
  | [] => []
  | (l, d) :: r => .tuple [.str l, d.dat] :: datF r
end
theorem tD_dp {K : PySem.W.Frag} {H : Hp} : ∀ t, Dp K H (tV t) (tD t)
  | none => .non
  | some n => .int n
section
variable {K : PySem.W.Frag} {H : Hp}
mutual
theorem isK_dp : ∀ (d : Kd) (v : V), IsK K H v d → Dp K H v d.dat
  | .num, _, h => by cases h with | num e => exact .tup e (.cons (.str _) .nil)
  | .var n, _, h => by cases h with | var e => exact .tup e (.cons (.str _) (.cons (.int _) .nil))
  | .fn A B, _, h => by cases h with | fn e x y => exact .tup e (.cons (.str _) (.cons (isK_dp A _ x) (.cons (isK_dp B _ y) .nil)))
  | .rc fs t, _, h => by cases h with | rc a b c d => exact .tup a (.cons (.str _) (.cons (.tup b (.cons (.str _) (.cons (.tup c.sqT (isFs_dp fs _ d)) (.cons (tD_dp t) .nil)))) .nil))
theorem isFs_dp : ∀ (fs : List (Str × Kd)) (vs : List V), IsFs K H vs fs → DpAll K H vs (datF fs)
  | [], _, h => by cases h; exact .nil
  | (l, d) :: r, _, h => by cases h with | cons a b c => exact .cons (.tup a (.cons (.str _) (.cons (isK_dp d _ b) .nil))) (isFs_dp r _ c)
end
end
theorem var_ne {m : Nat} {k : Kd} (h : k ≠ .var m) : PyData.eqv (Kd.var m).dat k.dat = false := by
  cases k with
  | num => simp only [Kd.dat, PyData.eqv, PyData.eqvAll]; rfl
  | var n =>
    simp only [Kd.dat, PyData.eqv, PyData.eqvAll]
    have : ((m : Int) == (n : Int)) = false := by
      rw [beq_eq_false_iff_ne]
      intro z
      exact h (by congr 1; omega)
    rw [this]
    simp
  | fn a b => simp only [Kd.dat, PyData.eqv, PyData.eqvAll]; rfl
  | rc fs t => simp only [Kd.dat, PyData.eqv, PyData.eqvAll]; rfl
abbrev s_meet_tails : Stmt := top 21
abbrev s_meet_rows : Stmt := top 22
abbrev s_meet : Stmt := top 23
theorem sc_meet_tails : FnScope ["wants", "left", "tail", "right", "rest", "fresh"] ["wants", "left", "tail", "right", "rest"] (defScope s_meet_tails) := ⟨rfl, rfl, rfl, by decide +kernel, rfl, by decide +kernel, by decide +kernel⟩
theorem sc_meet_rows : FnScope ["wants", "one", "other", "waiting", "fields", "tail", "others", "rest", "label", "held", "left", "right"] ["wants", "one", "other", "waiting"] (defScope s_meet_rows) := ⟨rfl, rfl, rfl, by decide +kernel, rfl, by decide +kernel, by decide +kernel⟩
theorem sc_meet : FnScope ["wants", "one", "other", "waiting"] ["wants", "one", "other", "waiting"] (defScope s_meet) := ⟨rfl, rfl, rfl, by decide +kernel, rfl, by decide +kernel, by decide +kernel⟩
def sp_meet_tails (K : PySem.W.Frag) (C : Addr) : Sp := fun vs H Q E => ∃ (w d1 d2 : Addr) (t : Nat) (tl : Option Nat) (kvs : KVs), vs = [.ref w, .ref d1, .int (t : Int), .ref d2, tV tl] ∧ H d1 = some (.dK []) ∧ H d2 = some (.dK kvs) ∧ (tl ≠ none → 0 < kvs.length) ∧ sp_fill_row K C [.ref w, .int (t : Int), .ref d2, tV tl] H Q E
/-- what must hold of a row that is told to an open one -/
structure RowOk (B : Bd) (kn : Kn) (t : Nat) (fs : List (Str × Kd)) (tl : Option Nat) : Prop where
  un : kn t = none
  lt : t < B.N
  len : fs.length ≤ 1
  tl : ∀ n, tl = some n → kn n = none ∧ n ≠ t ∧ 0 < fs.length ∧ n < B.N ∧ B.Tk n ∧ ∀ l, B.Lk t l ∨ l ∈ fs.map (·.1) → B.Lk n l
  fs : ∀ l a, (l, a) ∈ fs → ¬ B.Lk t l ∧ l ∈ B.U ∧ ∃ x, x ≤ 200 ∧ Wt kn (some t) a x
def sp_meet_rows (K : PySem.W.Frag) (C : Addr) : Sp := fun vs H Q _ => ∃ (w dk dl L : Addr) (v1 v2 : V) (t : Nat) (tl : Option Nat) (fs : List (Str × Kd)) (B : Bd) (Sl : Addr → Prop) (kn : Kn), vs = [.ref w, v1, v2, .ref L] ∧ WA K C B H w dk dl Sl kn ∧ IsR K H v1 [] (some t) ∧ IsR K H v2 fs tl ∧ RowOk B kn t fs tl ∧
  ∀ Sl' H', WStep (Ft dk Sl) H (Ft dk Sl') H' → WA K C B H' w dk dl Sl' (kn.put t (.row fs tl)) → Q .non H'
section
variable {P : Program} {wd : World} {K : PySem.W.Frag} {mg : Str → Option Value} {base : Heap} {C CN : Addr}
theorem ok_meet_tails (D : Dfn K mg "meet_tails" s_meet_tails ["wants", "left", "tail", "right", "rest"]) (T : Txt K mg) (c_fill_row : Cal P wd K mg base CX0 3 "fill_row" ["wants", "number", "fields", "tail"] (sp_fill_row K C)) :
    Cal P wd K mg base CX0 4 "meet_tails" ["wants", "left", "tail", "right", "rest"] (sp_meet_tails K C) := by
  have S := sc_meet_tails
  refine cal_of D S (fun vs H Q E h => ?_) (fun f cdv A outer s H vs Q E hr h => ?_)
  · obtain ⟨w, d1, d2, t, tl, kvs, rfl, _⟩ := h
    rfl
  obtain ⟨w, d1, d2, t, tl, kvs, rfl, h1, h2, hl, q⟩ := h
  have hu := hu_of hr
  refine ⟨_, (pss_cons (ps_if (PW.pt (pw_or (PW.pt (pw_and (pt_cmpR op_isN (pv 2) pe_non (nomark _)) (pw_and1 (pt_cmpR op_gt (pe_callB call_lenD rfl T.len PySem.boot_len (pa_cons (pv 3) pa_nil)) pe_int (nomark _))))) (pw_or1 (PW.pt (pw_and (pt_cmpR op_isN (pv 4) pe_non (nomark _)) (pw_and1 (pt_cmpR op_gt (pe_callB call_lenD rfl T.len PySem.boot_len (pa_cons (pv 1) pa_nil)) pe_int (nomark _))))))))
      pss_never
      pss_nil)
    (pss_one (ps_if (PW.pt (pw_or (pt_cmpR op_isN (pv 2) pe_non (nomark _)) (pw_or1 (PW.pt (pw_and (pt_cmpR op_notN (pv 4) pe_non (nomark _)) (pw_and1 (pt_cmpR op_eq (pe_callB call_lenD rfl T.len PySem.boot_len (pa_cons (pv 3) pa_nil)) pe_int (nomark _))))))))
      pss_never
      (pss_one (ps_if (PW.pt (pw_or (pt_cmpR op_isN (pv 4) pe_non (nomark _)) (pw_or1 (pt_cmpR op_eq (pe_callB call_lenD rfl T.len PySem.boot_len (pa_cons (pv 1) pa_nil)) pe_int (nomark _)))))
        (pss_one (ps_expr (pe_cal c_fill_row hr pass0 (pa_cons (pv 0) (pa_cons (pv 2) (pa_cons (pv 3) (pa_cons (pv 4) pa_nil)))))))
        pss_never))))), ?_⟩
  refine ⟨_, rfl, rfl, _, rfl, iteF (iteF ?_)⟩
  have last : tOr (tTest (tOp (fun x y H Q => y = V.non ∧ Q (V.bl (decide (x = V.non))) H) (tVar 4) (tC V.non))) (tTest (tOp rEq (tCB (fun xs H Q => ∃ a kvs, xs = [V.ref a] ∧ H a = some (HO.dK kvs) ∧ Q (V.int kvs.length) H) (tCons (tVar 1) tNil)) (tC (V.int 0))))
      [some (.ref w), some (.ref d1), some (.int (t : Int)), some (.ref d2), some (tV tl), none] H fun b H1 => if b = true then tDrop (tCall (sp_fill_row K C) [] E0 (tCons (tVar 0) (tCons (tVar 2) (tCons (tVar 3) (tCons (tVar 4) tNil))))) { nx := fun _ H' => Q V.non H', rt := Q } [some (.ref w), some (.ref d1), some (.int (t : Int)), some (.ref d2), some (tV tl), none] H1 else tNever { nx := fun _ H' => Q V.non H', rt := Q } [some (.ref w), some (.ref d1), some (.int (t : Int)), some (.ref d2), some (tV tl), none] H1 := by
    have go : tDrop (tCall (sp_fill_row K C) [] E0 (tCons (tVar 0) (tCons (tVar 2) (tCons (tVar 3) (tCons (tVar 4) tNil))))) { nx := fun _ H' => Q V.non H', rt := Q } [some (.ref w), some (.ref d1), some (.int (t : Int)), some (.ref d2), some (tV tl), none] H := ⟨_, rfl, _, rfl, _, rfl, _, rfl, q⟩
    cases tl with
    | none => exact ⟨_, rfl, rfl, _, rfl, iteT (iteT go)⟩
    | some n => exact ⟨_, rfl, rfl, _, rfl, iteF ⟨_, rfl, _, _, rfl, h1, rfl, _, rfl, iteT go⟩⟩
  cases tl with
  | none =>
    refine ⟨_, rfl, rfl, _, rfl, iteT ⟨_, rfl, _, _, rfl, h1, _, _, rfl, rfl, _, rfl, iteF ?_⟩⟩
    refine ⟨_, rfl, rfl, _, rfl, iteF ⟨_, rfl, rfl, _, rfl, iteF (iteF ?_)⟩⟩
    exact last
  | some n =>
    refine ⟨_, rfl, rfl, _, rfl, iteF (iteF ?_)⟩
    refine ⟨_, rfl, rfl, _, rfl, iteF ⟨_, rfl, rfl, _, rfl, iteT ⟨_, rfl, _, _, rfl, h2, rfl, _, rfl, ?_⟩⟩⟩
    have pl := hl (fun z => by cases z)
    have ne : decide (V.int (kvs.length : Int) = V.int 0) = false := decide_eq_false fun z => by
      have := V.int.inj z
      omega
    rw [ne]
    exact iteF last
theorem ok_meet_rows (D : Dfn K mg "meet_rows" s_meet_rows ["wants", "one", "other", "waiting"]) (T : Txt K mg) (c_laid_open : Cal P wd K mg base CX0 1 "laid_open" ["wants", "row"] (sp_laid_open K C)) (c_less_those : Cal P wd K mg base CX0 1 "less_those" ["fields", "others"] (sp_less_those K))
    (c_meet_tails : Cal P wd K mg base CX0 4 "meet_tails" ["wants", "left", "tail", "right", "rest"] (sp_meet_tails K C)) : Cal P wd K mg base CX0 5 "meet_rows" ["wants", "one", "other", "waiting"] (sp_meet_rows K C) := by
  have S := sc_meet_rows
  refine cal_of D S (fun vs H Q E h => ?_) (fun f cdv A outer s H vs Q E hr h => ?_)
  · obtain ⟨w, dk, dl, L, v1, v2, t, tl, fs, B, Sl, kn, rfl, _⟩ := h
    rfl
  obtain ⟨w, dk, dl, L, v1, v2, t, tl, fs, B, Sl, kn, rfl, W, r1, r2, ro, q⟩ := h
  have hu := hu_of hr
  refine ⟨_, (pss_cons (ps_asg (pe_cal c_laid_open (hr.mono (by decide)) pass0 (pa_cons (pv 0) (pa_cons (pv 1) pa_nil))) (pg_tup rfl (pgs_cons (pg_name (i := 4) S.nd rfl (Or.inl rfl)) (pgs_cons (pg_name (i := 5) S.nd rfl (Or.inl rfl)) pgs_nil))))
    (pss_cons (ps_asg (pe_cal c_laid_open (hr.mono (by decide)) pass0 (pa_cons (pv 0) (pa_cons (pv 2) pa_nil))) (pg_tup rfl (pgs_cons (pg_name (i := 6) S.nd rfl (Or.inl rfl)) (pgs_cons (pg_name (i := 7) S.nd rfl (Or.inl rfl)) pgs_nil))))
    (pss_cons (ps_lock (ps_for PassesOwn.never rfl (pi_items (pv 4)) (pg_tup rfl (pgs_cons (pg_name (i := 8) S.nd rfl (Or.inl rfl)) (pgs_cons (pg_name (i := 9) S.nd rfl (Or.inl rfl)) pgs_nil)))
      (pss_one (ps_if (pt_cmp (pc_din hu (pv 8) (pv 6)))
        pss_never
        pss_nil))))
    (pss_cons (ps_set (i := 10) S.nd rfl (Or.inl rfl) (pe_cal c_less_those (hr.mono (by decide)) pass0 (pa_cons (pv 4) (pa_cons (pv 6) pa_nil))))
    (pss_cons (ps_set (i := 11) S.nd rfl (Or.inl rfl) (pe_cal c_less_those (hr.mono (by decide)) pass0 (pa_cons (pv 6) (pa_cons (pv 4) pa_nil))))
    (pss_one (ps_if (pt_cmpR op_ne (pv 5) (pv 7) (nomark _))
      (pss_one (ps_expr (pe_cal c_meet_tails hr pass0 (pa_cons (pv 0) (pa_cons (pv 10) (pa_cons (pv 5) (pa_cons (pv 11) (pa_cons (pv 7) pa_nil))))))))
      pss_never))))))), ?_⟩
  have nd : (fs.map (·.1)).Nodup := by
    match fs, ro.len with
    | [], _ => exact List.nodup_nil
    | [x], _ => simp
    | _ :: _ :: _, h => simp only [List.length_cons] at h; omega
  refine ⟨_, rfl, _, rfl, w, dk, dl, v1, [], [], some t, some t, 0, B, Sl, kn, rfl, W, r1, .done (fun n e => by cases e; exact ro.un), List.nodup_nil, Nat.zero_le _, fun p1 d1 kv1 H1 s1 np1 nd1 g1 e1 f1 => ?_⟩
  cases f1
  refine ⟨p1, _, rfl, .of g1, rfl, _, _, rfl, _, _, rfl, rfl, ?_⟩
  have W1 := W.same s1
  refine ⟨_, rfl, _, rfl, w, dk, dl, v2, fs, fs, tl, tl, 0, B, Sl, kn, rfl, W1, r2.keep (same_keep s1), .done (fun n e => (ro.tl n e).1), nd, by have := ro.len; omega, fun p2 d2 kv2 H2 s2 np2 nd2 g2 e2 f2 => ?_⟩
  refine ⟨p2, _, rfl, .of g2, rfl, _, _, rfl, _, _, rfl, rfl, ?_⟩
  have e1' := s2 _ _ e1
  have nd12 : d1 ≠ d2 := ne_of_none e1 nd2
  refine lock_items (d := d1) (kvs := []) e1' (fun od i σ G => σ = [some (.ref w), some v1, some v2, some (.ref L), some (.ref d1), some (.int (t : Int)), some (.ref d2), some (tV tl), none, none, none, none] ∧ G = upd H2 d1 (.frz od (.dK [])))
    (fun od R h => ⟨_, rfl, h⟩) (fun od => ⟨rfl, rfl⟩) (fun od i σ G ⟨_, h⟩ => by rw [h]; exact upd_same) (fun od i k v σ G T G' r bb c z => by cases z) ?_
  rintro od σ G ⟨rfl, rfl⟩
  have sG : Same H2 (upd (upd H2 d1 (.frz od (.dK []))) d1 (.dK [])) := fun b o e => by
    by_cases hb : b = d1
    · subst hb
      rw [e1'] at e
      cases e
      exact upd_same
    · rw [upd_ne hb, upd_ne hb]
      exact e
  generalize upd (upd H2 d1 (.frz od (.dK []))) d1 (.dK []) = G at sG
  have k2 : kv2.length = fs.length := f2.length
  refine ⟨_, rfl, _, rfl, d1, d2, [], kv2, rfl, nd12, sG _ _ e1', sG _ _ e2, .inl rfl, List.nodup_nil, Nat.zero_le _, (fun e h => by cases h), fun p3 H3 s3 n3 e3 => ?_⟩
  refine ⟨_, rfl, _, rfl, d2, d1, kv2, [], rfl, nd12.symm, s3 _ _ (sG _ _ e2), s3 _ _ (sG _ _ e1'), .inr rfl, f2.nodup nd, by have := ro.len; omega, (fun e h => ?_), fun p4 H4 s4 n4 e4 => ?_⟩
  · have hk : e.1 ∈ kv2.map (·.1) := List.mem_map.mpr ⟨e, h, rfl⟩
    rw [f2.keys] at hk
    obtain ⟨x, _, hx⟩ := List.mem_map.mp hk
    exact ⟨x.1, hx.symm⟩
  have s24 : Same H2 H4 := (sG.trans s3).trans s4
  have W4 := (W1.same s2).same s24
  have tne : decide (V.int (t : Int) = tV tl) = false := by
    refine decide_eq_false fun z => ?_
    cases tl with
    | none => cases z
    | some n =>
      have z : V.int (t : Int) = V.int (n : Int) := z
      have z := V.int.inj z
      exact (ro.tl n rfl).2.1 (by omega)
  refine ⟨_, rfl, _, rfl, ?_, _, rfl, ?_⟩
  · cases tl <;> rfl
  rw [tne]
  refine iteT ⟨_, rfl, _, rfl, _, rfl, _, rfl, _, rfl, w, p3, p4, t, tl, kv2, rfl, s4 _ _ e3, e4, fun h => ?_, w, dk, dl, p4, t, tl, kv2, fs, B, Sl, kn, rfl, W4, e4, f2.keep (same_keep s24), ro.len, ?_, ?_, ro.lt, ro.fs, fun n e => ?_, fun Sl' H' k5 W5 => ?_⟩
  · cases tl with
    | none => exact absurd rfl h
    | some n =>
      have := (ro.tl n rfl).2.2.1
      omega
  · obtain ⟨kvs, g, _⟩ := (W1.same s2).same (sG.trans s3) |>.kn
    exact (ne_of_none g n4).symm
  · intro z
    obtain ⟨kv, g⟩ := ((W1.same s2).same (sG.trans s3)).lk.2 _ z
    rw [n4] at g
    cases g
  · obtain ⟨_, _, _, h1, h2, h3⟩ := ro.tl n e
    exact ⟨h1, h2, h3⟩
  · refine q Sl' H' ?_ W5
    exact WStep.trans (S1 := Ft dk Sl) ⟨(same_keep ((s1.trans s2).trans s24)).mono (fun _ z => z.elim), fun _ z => .inl z⟩ k5
end
end Fw
/-! Fw12: meet, make_same. -/
namespace Fw
open PySem PySem.Spec PyProof.Rows L2
/-- two kinds, looked up, are made the same in one turn: what is known then, what waits then -/
inductive MtC (B : Bd) (kn : Kn) : Kd → Kd → Kn → List (Kd × Kd) → Prop
  | fill {m x : Nat} {k : Kd} : k ≠ .var m → Wt kn (some m) k x → x ≤ 200 → m < B.N → SeqAt.shaped k.dat = true → MtC B kn (.var m) k (kn.put m (.kd k)) []
  | func {A1 B1 A2 B2 : Kd} : MtC B kn (.fn A1 B1) (.fn A2 B2) kn [(A1, A2), (B1, B2)]
  | row {t : Nat} {fs : List (Str × Kd)} {tl : Option Nat} : RowOk B kn t fs tl → MtC B kn (.rc [] (some t)) (.rc fs tl) (kn.put t (.row fs tl)) []
/-- what waits is worked off in n turns -/
inductive Mw (B : Bd) : Kn → List (Kd × Kd) → Nat → Kn → Prop
  | nil {kn : Kn} : Mw B kn [] 0 kn
  | step {kn kn1 kn' : Kn} {ws more : List (Kd × Kd)} {a b k1 k2 : Kd} {i j n : Nat} : Lup kn a k1 i → Lup kn b k2 j → MtC B kn k1 k2 kn1 more → Mw B kn1 (ws ++ more) n kn' → Mw B kn (ws ++ [(a, b)]) (n + 1) kn'
theorem Mw.len {B : Bd} {kn kn' : Kn} {ws : List (Kd × Kd)} {n : Nat} (h : Mw B kn ws n kn') : ws.length ≤ n := by
  induction h with
  | nil => exact Nat.le_refl _
  | step _ _ _ _ ih =>
    rw [List.length_append] at ih
    rw [List.length_append]
    simp only [List.length_cons, List.length_nil]
    omega
inductive IsW (K : PySem.W.Frag) (H : Hp) : List V → List (Kd × Kd) → Prop
  | nil : IsW K H [] []
  | cons {p : Addr} {x y : V} {A B : Kd} {vs : List V} {ws : List (Kd × Kd)} : SqT K H p [x, y] → IsK K H x A → IsK K H y B → IsW K H vs ws → IsW K H (.ref p :: vs) ((A, B) :: ws)
section
variable {K : PySem.W.Frag} {H H' : Hp} {S : Addr → Prop}
theorem IsW.keep (k : Keep S H H') : ∀ {vs : List V} {ws : List (Kd × Kd)}, IsW K H vs ws → IsW K H' vs ws
  | _, _, .nil => .nil
  | _, _, .cons a b c d => .cons (sqT_keep k a) (b.keep k) (c.keep k) (IsW.keep k d)
theorem IsW.length : ∀ {vs : List V} {ws : List (Kd × Kd)}, IsW K H vs ws → vs.length = ws.length
  | _, _, .nil => rfl
  | _, _, .cons a b c d => by simp [IsW.length d]
theorem IsW.app : ∀ {vs us : List V} {ws xs : List (Kd × Kd)}, IsW K H vs ws → IsW K H us xs → IsW K H (vs ++ us) (ws ++ xs)
  | _, _, _, _, .nil, h => h
  | _, _, _, _, .cons a b c d, h => .cons a b c (IsW.app d h)
theorem IsW.pop : ∀ {ws : List (Kd × Kd)} {vs : List V} {a b : Kd}, IsW K H vs (ws ++ [(a, b)]) → ∃ p x y, vs[vs.length - 1]? = some (.ref p) ∧ SqT K H p [x, y] ∧ IsK K H x a ∧ IsK K H y b ∧ IsW K H vs.dropLast ws
  | [], _, _, _, h => by
    cases h with
    | cons h1 h2 h3 h4 =>
      cases h4
      exact ⟨_, _, _, rfl, h1, h2, h3, .nil⟩
  | _ :: ws, _, _, _, h => by
    cases h with
    | @cons p x y A B vs _ h1 h2 h3 h4 =>
      obtain ⟨p', x', y', g1, g2, g3, g4, g5⟩ := IsW.pop h4
      have hl := h4.length
      have hne : vs ≠ [] := by
        rintro rfl
        simp at hl
      refine ⟨p', x', y', ?_, g2, g3, g4, ?_⟩
      · cases vs with
        | nil => exact absurd rfl hne
        | cons v r => simpa using g1
      · cases vs with
        | nil => exact absurd rfl hne
        | cons v r => exact .cons h1 h2 h3 g5
end
abbrev FL (dk : Addr) (Sl : Addr → Prop) (L : Addr) : Addr → Prop := fun b => Ft dk Sl b ∨ b = L
def sp_meet (K : PySem.W.Frag) (C : Addr) : Sp := fun vs H Q _ => ∃ (w dk dl L : Addr) (v1 v2 : V) (k1 k2 : Kd) (xs : List V) (ws more : List (Kd × Kd)) (B : Bd) (Sl : Addr → Prop) (kn kn' : Kn), vs = [.ref w, v1, v2, .ref L] ∧ WA K C B H w dk dl Sl kn ∧ IsK K H v1 k1 ∧ IsK K H v2 k2 ∧
  H L = some (.lst xs) ∧ IsW K H xs ws ∧ ws.length ≤ 1000 ∧ MtC B kn k1 k2 kn' more ∧ ∀ Sl' H' xs', WStep (FL dk Sl L) H (FL dk Sl' L) H' → WA K C B H' w dk dl Sl' kn' → H' L = some (.lst xs') → IsW K H' xs' (ws ++ more) → Q .non H'
def sp_make_same (K : PySem.W.Frag) (C : Addr) : Sp := fun vs H Q _ => ∃ (w dk dl : Addr) (v1 v2 : V) (a b : Kd) (n : Nat) (B : Bd) (Sl : Addr → Prop) (kn kn' : Kn), vs = [.ref w, v1, v2] ∧ WA K C B H w dk dl Sl kn ∧ IsK K H v1 a ∧ IsK K H v2 b ∧ Mw B kn [(a, b)] n kn' ∧ n ≤ 200 ∧
  ∀ Sl' H', WStep (Ft dk Sl) H (Ft dk Sl') H' → WA K C B H' w dk dl Sl' kn' → Q .non H'
abbrev s_make_same : Stmt := top 24
theorem sc_make_same : FnScope ["wants", "one", "other", "waiting", "many", "first", "second"] ["wants", "one", "other"] (defScope s_make_same) := ⟨rfl, rfl, rfl, by decide +kernel, rfl, by decide +kernel, by decide +kernel⟩
section
variable {P : Program} {wd : World} {K : PySem.W.Frag} {mg : Str → Option Value} {base : Heap} {C CN : Addr}
theorem shaped_var (m : Nat) : SeqAt.shaped (Kd.var m).dat = true := by
  simp only [Kd.dat, SeqAt.shaped, PyData.canLay0, PyData.canLayAll0, PyData.depth, PyData.depthAll]
  decide +kernel
theorem ok_meet (D : Dfn K mg "meet" s_meet ["wants", "one", "other", "waiting"]) (c_fill_kind : Cal P wd K mg base CX0 3 "fill_kind" ["wants", "number", "told"] (sp_fill_kind K C)) (c_meet_rows : Cal P wd K mg base CX0 5 "meet_rows" ["wants", "one", "other", "waiting"] (sp_meet_rows K C)) :
    Cal P wd K mg base CX0 6 "meet" ["wants", "one", "other", "waiting"] (sp_meet K C) := by
  have S := sc_meet
  refine cal_of D S (fun vs H Q E h => ?_) (fun f cdv A outer s H vs Q E hr h => ?_)
  · obtain ⟨w, dk, dl, L, v1, v2, k1, k2, xs, ws, more, B, Sl, kn, kn', rfl, _⟩ := h
    rfl
  obtain ⟨w, dk, dl, L, v1, v2, k1, k2, xs, ws, more, B, Sl, kn, kn', rfl, W, i1, i2, hL, iw, hw, mc, q⟩ := h
  have hu := hu_of hr
  have hu64 : (A.deeper (envOfC "meet" (defScope s_meet) s.heap.objs.size f cdv)).units + 64 < cLine := room_u hr
  refine ⟨_, (pss_one (ps_if (pt_cmpR op_eq (pe_ix ix_tup (pv 1) pe_int (fun _ _ => rfl)) pe_str (nomark _))
      (pss_one (ps_if (pt_cmpR (op_neD hu64) (pv 1) (pv 2) (nomark _))
        (pss_one (ps_expr (pe_cal c_fill_kind (hr.mono (by decide)) pass0 (pa_cons (pv 0) (pa_cons (pe_ix ix_tup (pv 1) pe_int (fun _ _ => rfl)) (pa_cons (pv 2) pa_nil))))))
        pss_nil))
      (pss_one (ps_if (pt_cmpR op_eq (pe_ix ix_tup (pv 2) pe_int (fun _ _ => rfl)) pe_str (nomark _))
        pss_never
        (pss_one (ps_if (pt_cmpR op_ne (pe_ix ix_tup (pv 1) pe_int (fun _ _ => rfl)) (pe_ix ix_tup (pv 2) pe_int (fun _ _ => rfl)) (nomark _))
          pss_never
          (pss_one (ps_if (pt_cmpR op_eq (pe_ix ix_tup (pv 1) pe_int (fun _ _ => rfl)) pe_str (nomark _))
            (pss_cons (ps_expr (pe_bm PySem.F.plainAttrs_list PySem.F.slot_list_append PySem.F.type_list_append mt_append (pv 3) (pa_cons (pe_tup (pa_cons (pe_ix ix_tup (pv 1) pe_int (fun _ _ => rfl)) (pa_cons (pe_ix ix_tup (pv 2) pe_int (fun _ _ => rfl)) pa_nil))) pa_nil)))
            (pss_one (ps_expr (pe_bm PySem.F.plainAttrs_list PySem.F.slot_list_append PySem.F.type_list_append mt_append (pv 3) (pa_cons (pe_tup (pa_cons (pe_ix ix_tup (pv 1) pe_int (fun _ _ => rfl)) (pa_cons (pe_ix ix_tup (pv 2) pe_int (fun _ _ => rfl)) pa_nil))) pa_nil)))))
            (pss_one (ps_if (pt_cmpR op_ne (pe_ix ix_tup (pv 1) pe_int (fun _ _ => rfl)) pe_str (nomark _))
              (pss_one (ps_expr (pe_cal c_meet_rows hr pass0 (pa_cons (pv 0) (pa_cons (pe_ix ix_tup (pv 1) pe_int (fun _ _ => rfl)) (pa_cons (pe_ix ix_tup (pv 2) pe_int (fun _ _ => rfl)) (pa_cons (pv 3) pa_nil)))))))
              pss_never)))))))))), ?_⟩
  have nLk : L ≠ dk := by
    obtain ⟨kvs, g, _⟩ := id W.kn
    exact ne_of hL g (by intro z; cases z)
  have nLw : L ≠ w := by
    obtain ⟨dx, fs, g, _⟩ := id W.ins
    exact ne_of hL g (by intro z; cases z)
  have nLS : ¬ Sl L := fun z => by
    obtain ⟨kv, g⟩ := W.lk.2 L z
    rw [hL] at g
    cases g
  have up : ∀ {Sl' H'}, WStep (Ft dk Sl) H (Ft dk Sl') H' → H' L = some (.lst xs) ∧ IsW K H' xs ws ∧ WStep (FL dk Sl L) H (FL dk Sl' L) H' := fun {Sl' H'} k =>
    ⟨k.1.at hL (fun z => z.elim nLk nLS), iw.keep k.1, k.1.mono (fun _ z => .inl z), fun b z => z.elim (fun z => (k.2 b z).imp .inl id) fun z => .inl (.inr z)⟩
  cases mc with
  | @fill m x _ h1 h2 h3 h4 h5 =>
    have i1' := i1
    cases i1 with
    | @var p _ g =>
      refine ⟨_, rfl, p, _, _, _, rfl, rfl, g, atI_nat rfl, rfl, _, rfl, iteT ?_⟩
      refine ⟨_, rfl, _, rfl, (Kd.var m).dat, k2.dat, isK_dp _ _ i1', isK_dp _ _ i2, shaped_var m, h5, _, rfl, ?_⟩
      rw [var_ne h1]
      refine iteT ⟨_, rfl, _, rfl, p, _, _, _, rfl, rfl, g, atI_nat rfl, _, rfl, w, dk, dl, v2, k2, m, x, B, Sl, kn, rfl, W, i2, h2, h3, h4, fun H' k' W' => ?_⟩
      obtain ⟨a1, a2, a3⟩ := up (Sl' := Sl) ⟨k'.mono fun _ z => .inl z, fun _ z => .inl z⟩
      exact q Sl H' xs a3 W' a1 (by simpa using a2)
  | @func A1 B1 A2 B2 =>
    cases i1 with
    | @fn p x1 y1 _ _ g gx gy =>
    cases i2 with
    | @fn p2 x2 y2 _ _ g2 gx2 gy2 =>
      refine ⟨_, rfl, p, _, _, _, rfl, rfl, g, atI_nat rfl, rfl, _, rfl, iteF ?_⟩
      refine ⟨_, rfl, p2, _, _, _, rfl, rfl, g2, atI_nat rfl, rfl, _, rfl, iteF ?_⟩
      refine ⟨_, rfl, p, _, _, _, rfl, rfl, g, atI_nat rfl, _, rfl, p2, _, _, _, rfl, rfl, g2, atI_nat rfl, rfl, _, rfl, iteF ?_⟩
      refine ⟨_, rfl, p, _, _, _, rfl, rfl, g, atI_nat rfl, rfl, _, rfl, iteT ?_⟩
      have ln := iw.length
      refine ⟨_, rfl, .inl ⟨rfl, _, .of hL⟩, _, rfl, p, _, _, _, rfl, rfl, g, atI_nat rfl, _, rfl, p2, _, _, _, rfl, rfl, g2, atI_nat rfl, (by show 2 ≤ sizeLine; decide), fun q1 n1 => ?_⟩
      refine newG n1 fun H1 s1 e1 => ?_
      refine ⟨L, xs, _, rfl, rfl, s1 _ _ hL, sz_lt (by omega), ?_⟩
      refine mutG (s1 _ _ hL) rfl fun H2 k2 e2 => ?_
      have k02 : Keep (· = L) H H2 := (same_keep s1).mono (fun _ z => z.elim) |>.tr k2
      refine ⟨_, rfl, .inl ⟨rfl, _, .of e2⟩, _, rfl, p, _, _, _, rfl, rfl, sqT_keep k02 g, atI_nat rfl, _, rfl, p2, _, _, _, rfl, rfl, sqT_keep k02 g2, atI_nat rfl, (by show 2 ≤ sizeLine; decide), fun q2 n2 => ?_⟩
      refine newG n2 fun H3 s3 e3 => ?_
      refine ⟨L, _, _, rfl, rfl, s3 _ _ e2, sz_lt (by rw [List.length_append, List.length_singleton]; omega), ?_⟩
      refine mutG (s3 _ _ e2) rfl fun H4 k4 e4 => ?_
      have k24 : Keep (· = L) H2 H4 := (same_keep s3).mono (fun _ z => z.elim) |>.tr k4
      have k04 := k02.tr k24
      refine q Sl H4 _ ⟨k04.mono fun _ z => .inr z, fun _ z => .inl z⟩ (W.off k04 nLw nLk nLS) e4 ?_
      have t1 : SqT K H4 q1 [x1, x2] := sqT_keep k24 (sqT_keep k2 (.of e1))
      have t2 : SqT K H4 q2 [y1, y2] := sqT_keep k4 (.of e3)
      rw [List.append_assoc]
      exact (iw.keep k04).app (.cons t1 (gx.keep k04) (gx2.keep k04) (.cons t2 (gy.keep k04) (gy2.keep k04) .nil))
  | @row t fs tl ro =>
    cases i1 with
    | @rc p r f vs _ _ g gr gf gs =>
    cases i2 with
    | @rc p2 r2 f2 vs2 _ _ g2 gr2 gf2 gs2 =>
      refine ⟨_, rfl, p, _, _, _, rfl, rfl, g, atI_nat rfl, rfl, _, rfl, iteF ?_⟩
      refine ⟨_, rfl, p2, _, _, _, rfl, rfl, g2, atI_nat rfl, rfl, _, rfl, iteF ?_⟩
      refine ⟨_, rfl, p, _, _, _, rfl, rfl, g, atI_nat rfl, _, rfl, p2, _, _, _, rfl, rfl, g2, atI_nat rfl, rfl, _, rfl, iteF ?_⟩
      refine ⟨_, rfl, p, _, _, _, rfl, rfl, g, atI_nat rfl, rfl, _, rfl, iteF ?_⟩
      refine ⟨_, rfl, p, _, _, _, rfl, rfl, g, atI_nat rfl, rfl, _, rfl, iteT ?_⟩
      refine ⟨_, rfl, _, rfl, p, _, _, _, rfl, rfl, g, atI_nat rfl, _, rfl, p2, _, _, _, rfl, rfl, g2, atI_nat rfl, _, rfl, w, dk, dl, L, .ref r, .ref r2, t, tl, fs, B, Sl, kn, rfl, W, ⟨r, f, vs, rfl, gr, gf, gs⟩, ⟨r2, f2, vs2, rfl, gr2, gf2, gs2⟩, ro, fun Sl' H' k' W' => ?_⟩
      obtain ⟨a1, a2, a3⟩ := up k'
      exact q Sl' H' xs a3 W' a1 (by simpa using a2)
theorem ok_make_same (D : Dfn K mg "make_same" s_make_same ["wants", "one", "other"]) (T : Txt K mg) (c_looked_up : Cal P wd K mg base CX0 1 "looked_up" ["wants", "told"] (sp_looked_up K C)) (c_meet : Cal P wd K mg base CX0 6 "meet" ["wants", "one", "other", "waiting"] (sp_meet K C)) :
    Cal P wd K mg base CX0 7 "make_same" ["wants", "one", "other"] (sp_make_same K C) := by
  have S := sc_make_same
  obtain ⟨tM, hM⟩ := T.mgMOST
  refine cal_of D S (fun vs H Q E h => ?_) (fun f cdv A outer s H vs Q E hr h => ?_)
  · obtain ⟨w, dk, dl, v1, v2, a, b, n, B, Sl, kn, kn', rfl, _⟩ := h
    rfl
  obtain ⟨w, dk, dl, v1, v2, a, b, n0, B, Sl, kn, kn', rfl, W, i1, i2, mw, hn, q⟩ := h
  have hu := hu_of hr
  refine ⟨_, (pss_cons (ps_set (i := 3) S.nd rfl (Or.inl rfl) (pe_lst (pa_cons (pe_tup (pa_cons (pv 1) (pa_cons (pv 2) pa_nil))) pa_nil)))
    (pss_cons (ps_set (i := 4) S.nd rfl (Or.inl rfl) pe_int)
    (pss_one (ps_while PassesOwn.never (pt_cmpR op_gt (pe_callB call_len_seq rfl T.len PySem.boot_len (pa_cons (pv 3) pa_nil)) pe_int (nomark _))
      (pss_cons (ps_aug (i := 4) S.nd rfl (Or.inl rfl) pe_int ip_add)
      (pss_cons (ps_if (pt_cmpR op_gt (pv 4) (pe_glob (v := V.int 200) rfl hM ⟨_, rfl⟩) (nomark _))
        pss_never
        pss_nil)
      (pss_cons (ps_asg (pe_bm0 PySem.F.plainAttrs_list PySem.F.slot_list_pop PySem.F.type_list_pop mt_pop (pv 3)) (pg_tup rfl (pgs_cons (pg_name (i := 5) S.nd rfl (Or.inl rfl)) (pgs_cons (pg_name (i := 6) S.nd rfl (Or.inl rfl)) pgs_nil))))
      (pss_one (ps_expr (pe_cal c_meet hr pass0 (pa_cons (pv 0) (pa_cons (pe_cal c_looked_up (hr.mono (by decide)) pass0 (pa_cons (pv 0) (pa_cons (pv 5) pa_nil))) (pa_cons (pe_cal c_looked_up (hr.mono (by decide)) pass0 (pa_cons (pv 0) (pa_cons (pv 6) pa_nil))) (pa_cons (pv 3) pa_nil)))))))))))))), ?_⟩
  refine ⟨_, rfl, _, rfl, (by show 2 ≤ sizeLine; decide), fun p0 np0 => ?_⟩
  refine newG np0 fun H0 s0 e0 => ?_
  refine ⟨(by show 1 ≤ sizeLine; decide), fun L hL0 => ?_⟩
  refine newG hL0 fun H1 s1 g1 => ?_
  have hL : H L = none := s0.free hL0
  have s01 := s0.trans s1
  -- a step over what is new
  have off : ∀ {Sl' G}, WStep (FL dk Sl L) H (FL dk Sl' L) G → (∀ xs, G L = some (.lst xs) → LkAt B G dl Sl' → WStep (Ft dk Sl) H (Ft dk Sl') G) := fun {Sl' G} k xs gL lk =>
    ⟨fun b o e z => k.1 b o e (z.imp id fun n y => y.elim n fun y => by subst y; rw [hL] at e; cases e), fun b z => (k.2 b (.inl z)).elim (fun z => z.elim .inl fun z => .inr (by rw [z]; exact hL)) .inr⟩
  let Wi : Nat → L2.St → Hp → Prop := fun m σ G => ∃ (c : Nat) (xs : List V) (ws : List (Kd × Kd)) (a1 a2 : Option V) (Sl' : Addr → Prop) (kn1 : Kn), σ = [some (.ref w), some v1, some v2, some (.ref L), some (.int (c : Int)), a1, a2] ∧ WStep (FL dk Sl L) H (FL dk Sl' L) G ∧ WA K C B G w dk dl Sl' kn1 ∧ G L = some (.lst xs) ∧ IsW K G xs ws ∧ Mw B kn1 ws m kn' ∧ c + m = n0
  refine ⟨Wi, ⟨n0, 0, [.ref p0], [(a, b)], none, none, Sl, kn, rfl, ⟨(same_keep s01).mono (fun _ z => z.elim), fun _ z => .inl z⟩, W.same s01, g1, .cons (.of (s1 _ _ e0)) (i1.keep (same_keep s01)) (i2.keep (same_keep s01)) .nil, mw, by omega⟩, ?_⟩
  rintro m σ G ⟨c, xs, ws, a1, a2, Sl1, kn1, rfl, k1, W1, gL, iw, mw1, hc⟩
  refine ⟨_, rfl, L, xs, rfl, .inl (.of gL), _, _, rfl, rfl, _, rfl, ?_⟩
  have ln := iw.length
  have lm := mw1.len
  cases mw1 with
  | nil =>
    cases iw
    exact iteF (q Sl1 G (off k1 _ gL W1.lk) W1)
  | @step _ kn2 _ ws' more a b k1' k2' i j m' l1 l2 mc mw2 =>
    rw [List.length_append, List.length_singleton] at ln lm
    have dt : decide ((0 : Int) < (xs.length : Int)) = true := decide_eq_true (by omega)
    rw [dt]
    refine iteT ⟨fun σ' G' => ∃ m2, m2 < m' + 1 ∧ Wi m2 σ' G', fun σ' G' z => z, ?_⟩
    refine ⟨_, rfl, _, _, rfl, rfl, ?_⟩
    refine ⟨_, rfl, _, _, rfl, rfl, _, rfl, ?_⟩
    have d2 : decide ((200 : Int) < (c : Int) + 1) = false := decide_eq_false (by omega)
    rw [d2]
    refine iteF ?_
    obtain ⟨p, x, y, e1, e2, e3, e4, e5⟩ := iw.pop
    refine ⟨_, rfl, .inl ⟨rfl, _, .of gL⟩, L, xs, _, rfl, rfl, gL, e1, ?_⟩
    refine mutG gL rfl fun G1 kG1 gL1 => ?_
    refine ⟨p, _, rfl, sqT_keep kG1 e2, rfl, _, _, rfl, _, _, rfl, rfl, ?_⟩
    have nLk : L ≠ dk := by
      obtain ⟨kvs, g, _⟩ := id W1.kn
      exact ne_of gL g (by intro z; cases z)
    have nLw : L ≠ w := by
      obtain ⟨dx, fs, g, _⟩ := id W1.ins
      exact ne_of gL g (by intro z; cases z)
    have nLS : ¬ Sl1 L := fun z => by
      obtain ⟨kv, g⟩ := W1.lk.2 L z
      rw [gL] at g
      cases g
    have W2 := W1.off kG1 nLw nLk nLS
    refine ⟨_, rfl, _, rfl, _, rfl, w, dk, dl, x, a, k1', i, B, Sl1, kn1, rfl, W2, e3.keep kG1, l1, fun u1 h1 => ?_⟩
    refine ⟨_, rfl, _, rfl, w, dk, dl, y, b, k2', j, B, Sl1, kn1, rfl, W2, e4.keep kG1, l2, fun u2 h2 => ?_⟩
    refine ⟨_, rfl, w, dk, dl, L, u1, u2, k1', k2', _, ws', more, B, Sl1, kn1, kn2, rfl, W2, h1, h2, gL1, e5.keep kG1, by omega, mc, fun Sl2 G2 xs2 k2 W3 gL2 iw2 => ?_⟩
    refine ⟨m', by omega, c + 1, xs2, ws' ++ more, some x, some y, Sl2, kn2, ?_, ?_, W3, gL2, iw2, mw2, by omega⟩
    · rfl
    · exact k1.trans (WStep.trans (S1 := FL dk Sl1 L) ⟨kG1.mono fun _ z => .inr z, fun _ z => .inl z⟩ k2)
end
end Fw
/-! FwU: texts in order. -/
namespace Fw
open PySem PySem.Spec PyProof.Rows L2
abbrev ltS (x y : Str) : Prop := x.cps.toList < y.cps.toList
theorem ltCps_iff : ∀ (a b : List Nat), ltCps a b = true ↔ a < b
  | [], [] => by simp [ltCps]
  | [], _ :: _ => by simp [ltCps]
  | _ :: _, [] => by simp [ltCps]
  | a :: r, b :: t => by
    have ih := ltCps_iff r t
    simp only [ltCps, Bool.or_eq_true, Bool.and_eq_true, decide_eq_true_eq, beq_iff_eq, List.cons_lt_cons_iff, ih]
theorem ltS_irr (x : Str) : ¬ ltS x x := List.lt_irrefl _
theorem ltS_trans {x y z : Str} (a : ltS x y) (b : ltS y z) : ltS x z := List.lt_trans a b
theorem ltS_tri {x y : Str} (h : ¬ ltS y x) (n : x ≠ y) : ltS x y := by
  have h : x.cps.toList ≤ y.cps.toList := List.not_lt.mp h
  rcases List.le_iff_lt_or_eq.mp h with h | h
  · exact h
  · exact absurd (by cases x; cases y; congr; exact Array.toList_inj.mp h) n
theorem leS_trans {x y z : Str} (a : ¬ ltS y x) (b : ¬ ltS z y) : ¬ ltS z x := by
  by_cases e1 : x = y
  · rw [e1]; exact b
  by_cases e2 : y = z
  · rw [← e2]; exact a
  have c := ltS_trans (ltS_tri a e1) (ltS_tri b e2)
  exact fun d => ltS_irr _ (ltS_trans c d)
theorem risingS_pw : ∀ (l : List Str) (p : Str), risingS p l = true → (p :: l).Pairwise fun a b => ¬ ltS b a
  | [], p, _ => List.pairwise_singleton _ _
  | x :: r, p, h => by
    have h : (!ltCps x.cps.toList p.cps.toList && risingS x r) = true := h
    rw [Bool.and_eq_true] at h
    have ih := risingS_pw r x h.2
    have h1 : ¬ ltS x p := fun z => by
      have := (ltCps_iff _ _).mpr z
      rw [this] at h
      exact absurd h.1 (by simp)
    refine List.pairwise_cons.mpr ⟨fun y hy => ?_, ih⟩
    rcases List.mem_cons.mp hy with e | hy
    · rw [e]; exact h1
    · exact leS_trans h1 ((List.pairwise_cons.mp ih).1 y hy)
theorem sortedS_pw {l : List Str} (h : sortedS l = true) (n : l.Nodup) : l.Pairwise ltS := by
  have h' : l.Pairwise fun a b => ¬ ltS b a := by
    cases l with
    | nil => exact List.Pairwise.nil
    | cons x r => exact risingS_pw r x h
  exact (h'.and n).imp fun ⟨a, b⟩ => ltS_tri a b
theorem sorted_unique {α : Type} (f : α → Str) : ∀ {l1 l2 : List α}, l1.Perm l2 → l1.Pairwise (fun a b => ltS (f a) (f b)) → l2.Pairwise (fun a b => ltS (f a) (f b)) → l1 = l2
  | [], l2, p, _, _ => (List.nil_perm.mp p).symm
  | x :: r1, [], p, _, _ => absurd p.length_eq (by simp)
  | x :: r1, y :: r2, p, h1, h2 => by
    have a1 := List.pairwise_cons.mp h1
    have a2 := List.pairwise_cons.mp h2
    have e : x = y := by
      rcases List.mem_cons.mp (p.subset List.mem_cons_self) with e | hx
      · exact e
      rcases List.mem_cons.mp (p.symm.subset List.mem_cons_self) with e | hy
      · exact e.symm
      exact absurd (ltS_trans (a1.1 y hy) (a2.1 x hx)) (ltS_irr _)
    subst e
    rw [sorted_unique f (List.perm_cons x |>.mp p) a1.2 a2.2]
/-- fields by label -/
def srt {α : Type} (fs : List (Str × α)) : List (Str × α) := fs.mergeSort fun a b => decide (a.1.cps.toList ≤ b.1.cps.toList)
theorem srt_perm {α : Type} (fs : List (Str × α)) : (srt fs).Perm fs := List.mergeSort_perm _ _
theorem srt_pw {α : Type} {fs : List (Str × α)} (n : (fs.map (·.1)).Nodup) : (srt fs).Pairwise fun a b => ltS a.1 b.1 := by
  have h : (srt fs).Pairwise fun a b => decide (a.1.cps.toList ≤ b.1.cps.toList) = true := by
    refine List.pairwise_mergeSort (fun a b c h1 h2 => ?_) (fun a b => ?_) fs
    · exact decide_eq_true (List.le_trans (of_decide_eq_true h1) (of_decide_eq_true h2))
    · rcases List.le_total a.1.cps.toList b.1.cps.toList with h | h
      · simp [h]
      · simp [h]
  have n' : ((srt fs).map (·.1)).Nodup := ((srt_perm fs).map _).nodup_iff.mpr n
  have n'' : (srt fs).Pairwise fun a b => a.1 ≠ b.1 := List.pairwise_map.mp n'
  refine (h.and n'').imp fun {a b} ⟨c, d⟩ => ltS_tri (fun z => ?_) d
  exact List.not_lt.mpr (of_decide_eq_true c) z
theorem srt_map {α β : Type} (f : α → β) {fs : List (Str × α)} (n : (fs.map (·.1)).Nodup) : (srt fs).map (fun x => (x.1, f x.2)) = srt (fs.map fun x => (x.1, f x.2)) := by
  have n2 : ((fs.map fun x => (x.1, f x.2)).map (·.1)).Nodup := by rw [List.map_map]; exact n
  refine sorted_unique (fun x => x.1) (((srt_perm fs).map _).trans (srt_perm _).symm) ?_ (srt_pw n2)
  exact List.pairwise_map.mpr (srt_pw n)
theorem srt_of {α : Type} {fs gs : List (Str × α)} (p : gs.Perm fs) (h : gs.Pairwise fun a b => ltS a.1 b.1) : gs = srt fs := by
  have n : (fs.map (·.1)).Nodup := by
    refine ((p.map _).nodup_iff (l₁ := gs.map (·.1))).mp ?_
    exact List.pairwise_map.mpr (h.imp fun {a b} (c : ltS a.1 b.1) (d : a.1 = b.1) => ltS_irr b.1 (by rw [d] at c; exact c))
  exact sorted_unique (fun x => x.1) (p.trans (srt_perm fs).symm) h (srt_pw n)
theorem srt_keys {α : Type} {fs : List (Str × α)} {ys : List Str} (n : (fs.map (·.1)).Nodup) (p : ys.Perm (fs.map (·.1))) (s : sortedS ys = true) : ys = (srt fs).map (·.1) := by
  refine sorted_unique id (p.trans ((srt_perm fs).map _).symm) (sortedS_pw s (p.nodup_iff.mpr n)) ?_
  exact List.pairwise_map.mpr (srt_pw n)
end Fw
/-! Fw13: settled, settled_row. -/
namespace Fw
open PySem PySem.Spec PyProof.Rows L2
mutual
/-- the kind k, all that is known filled in, is d -/
inductive Stl (kn : Kn) : Nat → Kd → Kd → Prop
  | num {n m : Nat} {k : Kd} : Lup kn k .num m → Stl kn (n + 1) k .num
  | var {n m j : Nat} {k : Kd} : Lup kn k (.var j) m → Stl kn (n + 1) k (.var j)
  | func {n m : Nat} {k A B A' B' : Kd} : Lup kn k (.fn A B) m → Stl kn n A A' → Stl kn n B B' → Stl kn (n + 1) k (.fn A' B')
  | rc {n m j : Nat} {k : Kd} {fs fs' ds : List (Str × Kd)} {t t' : Option Nat} : Lup kn k (.rc fs t) m → LO kn fs t fs' t' j → (fs'.map (·.1)).Nodup → fs'.length < 64 → StlF kn n (srt fs') ds → Stl kn (n + 1) k (.rc ds t')
inductive StlF (kn : Kn) : Nat → List (Str × Kd) → List (Str × Kd) → Prop
  | nil {n : Nat} : StlF kn n [] []
  | cons {n : Nat} {l : Str} {k d : Kd} {fs ds : List (Str × Kd)} : Stl kn n k d → StlF kn n fs ds → StlF kn n ((l, k) :: fs) ((l, d) :: ds)
end
structure StlR (kn : Kn) (n : Nat) (fs : List (Str × Kd)) (t : Option Nat) (fs' ds : List (Str × Kd)) (t' : Option Nat) (j : Nat) : Prop where
  lo : LO kn fs t fs' t' j
  nd : (fs'.map (·.1)).Nodup
  len : fs'.length < 64
  st : StlF kn n (srt fs') ds
theorem StlF.get {kn : Kn} {n : Nat} : ∀ {fs ds : List (Str × Kd)} {i : Nat} {l : Str}, StlF kn n fs ds → (fs.map (·.1))[i]? = some l → ∃ k d, fs[i]? = some (l, k) ∧ ds[i]? = some (l, d) ∧ Stl kn n k d
  | _, _, _, _, .nil, e => by simp at e
  | _, _, 0, _, .cons a b, e => by
    simp at e
    subst e
    exact ⟨_, _, rfl, rfl, a⟩
  | _, _, i + 1, _, .cons a b, e => by
    obtain ⟨k, d, h1, h2, h3⟩ := b.get (i := i) (by simpa using e)
    exact ⟨k, d, by simpa using h1, by simpa using h2, h3⟩
theorem StlF.length {kn : Kn} {n : Nat} : ∀ {fs ds : List (Str × Kd)}, StlF kn n fs ds → fs.length = ds.length
  | _, _, .nil => rfl
  | _, _, .cons a b => by simp [b.length]
def sp_settled (K : PySem.W.Frag) (C : Addr) (n : Nat) : Sp := fun vs H Q _ => ∃ (w dk dl : Addr) (v : V) (k d : Kd) (B : Bd) (Sl : Addr → Prop) (kn : Kn), vs = [.ref w, v] ∧ WA K C B H w dk dl Sl kn ∧ IsK K H v k ∧ Stl kn n k d ∧ ∀ v' H', Same H H' → IsK K H' v' d → Q v' H'
def sp_settled_row (K : PySem.W.Frag) (C : Addr) (n : Nat) : Sp := fun vs H Q _ => ∃ (w dk dl : Addr) (v : V) (fs fs' ds : List (Str × Kd)) (t t' : Option Nat) (j : Nat) (B : Bd) (Sl : Addr → Prop) (kn : Kn), vs = [.ref w, v] ∧ WA K C B H w dk dl Sl kn ∧ IsR K H v fs t ∧ StlR kn n fs t fs' ds t' j ∧ ∀ v' H', Same H H' → IsR K H' v' ds t' → Q v' H'
abbrev s_settled_row : Stmt := top 25
abbrev s_settled : Stmt := top 26
theorem sc_settled_row : FnScope ["wants", "row", "fields", "tail", "label"] ["wants", "row"] (defScope s_settled_row) := ⟨rfl, rfl, rfl, by decide +kernel, rfl, by decide +kernel, by decide +kernel⟩
theorem sc_settled : FnScope ["wants", "told", "held"] ["wants", "told"] (defScope s_settled) := ⟨rfl, rfl, rfl, by decide +kernel, rfl, by decide +kernel, by decide +kernel⟩
theorem fd_val {K : PySem.W.Frag} {H : Hp} : ∀ {kvs : KVs} {fs : List (Str × Kd)} {l : Str} {k : Kd}, IsFd K H kvs fs → (fs.map (·.1)).Nodup → (l, k) ∈ fs → ∃ v, valV kvs (Sum.inr l) = some v ∧ IsK K H v k := by
  intro kvs fs l k h nd m
  have key : ∃ v, (Sum.inr l, v) ∈ kvs ∧ IsK K H v k := by
    clear nd
    induction h with
    | nil => cases m
    | @cons l' v d kvs fs a b ih =>
      rcases List.mem_cons.mp m with e | m
      · cases e
        exact ⟨v, List.mem_cons_self, a⟩
      · obtain ⟨v', h1, h2⟩ := ih m
        exact ⟨v', List.mem_cons_of_mem _ h1, h2⟩
  obtain ⟨v, h1, h2⟩ := key
  exact ⟨v, valV_of_mem (h.nodup nd) h1, h2⟩
section
variable {P : Program} {wd : World} {K : PySem.W.Frag} {mg : Str → Option Value} {base : Heap} {C CN : Addr}
theorem no_settled_row {n : Nat} (D : Dfn K mg "settled_row" s_settled_row ["wants", "row"]) (T : Txt K mg) (c_laid_open : Cal P wd K mg base CX0 1 "laid_open" ["wants", "row"] (sp_laid_open K C)) (c_settled : Cal P wd K mg base CX0 (2 * n + 2) "settled" ["wants", "told"] (sp_settled K C n)) :
    Cal P wd K mg base CX0 (2 * n + 3) "settled_row" ["wants", "row"] (sp_settled_row K C n) := by
  have S := sc_settled_row
  refine cal_of D S (fun vs H Q E h => ?_) (fun f cdv A outer s H vs Q E hr h => ?_)
  · obtain ⟨w, dk, dl, v, fs, fs', ds, t, t', j, B, Sl, kn, rfl, _⟩ := h
    rfl
  obtain ⟨w, dk, dl, v, fs, fs', ds, t, t', j, B, Sl, kn, rfl, W, r1, st, q⟩ := h
  have hu := hu_of hr
  refine ⟨_, (pss_cons (ps_asg (pe_cal c_laid_open (hr.mono (by omega)) pass0 (pa_cons (pv 0) (pa_cons (pv 1) pa_nil))) (pg_tup rfl (pgs_cons (pg_name (i := 2) S.nd rfl (Or.inr rfl)) (pgs_cons (pg_name (i := 3) S.nd rfl (Or.inl rfl)) pgs_nil))))
    (pss_one (ps_ret (pe_tup (pa_cons pe_str (pa_cons (pe_callTy call_tupleP rfl T.tuple (by decide +kernel) (pa_cons (pe_lc (own := [("label", 4)]) rfl S.nd (pi_list (pe_callB (call_sortedD rfl) rfl T.sorted (by decide +kernel) (pa_cons (pv 2) pa_nil))) (blkOk_by (own := [("label", 4)]) (N := ["wants", "row", "fields", "tail", "label"]) (sc := defScope s_settled_row) (by decide +kernel)) (fun _ _ _ _ _ => (pg_name (i := 4) S.nd rfl (Or.inl rfl))) (fun _ _ _ _ _ => pts_nil) (fun _ _ _ _ _ => (pe_tup (pa_cons (pv 4) (pa_cons (pe_cal c_settled hr pass0 (pa_cons (pv 0) (pa_cons (pe_dget hu (pv 2) (pv 4) (fun _ _ => rfl)) pa_nil))) pa_nil))))) pa_nil)) (pa_cons (pv 3) pa_nil))))))), ?_⟩
  have h64 := st.len
  refine ⟨_, rfl, _, rfl, w, dk, dl, v, fs, fs', t, t', j, B, Sl, kn, rfl, W, r1, st.lo, st.nd, by omega, fun p1 d1 kv1 H1 s1 np1 nd1 g1 e1 f1 => ?_⟩
  refine ⟨p1, _, rfl, .of g1, rfl, _, _, rfl, _, _, rfl, rfl, ?_⟩
  refine ⟨_, rfl, d1, kv1, fs'.map (·.1), rfl, .of e1, by rw [f1.keys, List.map_map]; rfl, by rw [List.length_map]; exact h64, fun ys p pm so np => ?_⟩
  have hys := srt_keys st.nd pm so
  refine newG np fun H2 s2 h2 => ?_
  refine ⟨p, rfl, ⟨_, .of h2⟩, fun D nD => ?_⟩
  have ldl := st.st.length
  have lsr : (srt fs').length = fs'.length := (srt_perm fs').length_eq
  have ly : ys.length = ds.length := by rw [hys, List.length_map]; exact ldl
  have W2 := (W.same s1).same s2
  have f2 := f1.keep (same_keep s2)
  refine lc_list (K := K) (a := p) (xs := ys.map V.str) (fun i H' => ∃ ps, Same H2 H' ∧ H' D = some (.lst ps) ∧ IsFs K H' ps (ds.take i))
    ⟨[], keep_new (S := No) nD |>.toSame, upd_same, .nil⟩ (fun i H' _ ⟨_, s, _⟩ => .of (s _ _ h2)) ?_ ?_
  · rintro i x H3 hi ⟨ps, s3, h3, g3⟩
    rw [List.getElem?_map] at hi
    cases gi : ys[i]? with
    | none => rw [gi] at hi; cases hi
    | some l =>
      rw [gi] at hi
      cases hi
      rw [hys] at gi
      obtain ⟨k, d, q1, q2, q3⟩ := st.st.get gi
      have mk : (l, k) ∈ fs' := (srt_perm fs').subset (List.mem_of_getElem? q1)
      obtain ⟨u, u1, u2⟩ := fd_val (f2.keep (same_keep s3)) st.nd mk
      refine ⟨rfl, ?_⟩
      refine tyes ⟨_, rfl, _, rfl, _, rfl, _, rfl, d1, u, rfl, .inl ⟨kv1, Sum.inr l, .of (s3 _ _ (s2 _ _ e1)), rfl, u1.symm⟩, w, dk, dl, u, k, d, B, Sl, kn, rfl, W2.same s3, u2, q3, fun v4 H4 s4 g4 => ?_⟩
      refine ⟨(by show 2 ≤ sizeLine; decide), fun p2 n3 => ?_⟩
      refine newG n3 fun H5 s5 h5 => ?_
      have hD := s5 _ _ (s4 _ _ h3)
      have lp := g3.length
      rw [List.length_take] at lp
      refine ⟨ps, hD, sz_lt (by omega), ?_⟩
      refine mutG hD rfl fun H6 k6 h6 => ?_
      refine ⟨ps ++ [.ref p2], same_over (s3.trans (s4.trans s5)) k6 nD, h6, ?_⟩
      rw [take_snoc q2]
      exact isFs_snoc (((g3.keep (same_keep s4)).keep (same_keep s5)).keep k6) (sqT_keep k6 (.of h5)) ((g4.keep (same_keep s5)).keep k6)
  · rintro H3 ⟨ps, s3, h3, g3⟩
    rw [List.length_map, ly, List.take_length] at g3
    refine ⟨D, ps, rfl, .of h3, fun p2 o2 n2 d2 => ?_⟩
    refine newG n2 fun H4 s4 h4 => ?_
    refine ⟨_, rfl, (by show 3 ≤ sizeLine; decide), newO (Q := fun p H' => Q (.ref p) H') fun p3 H5 n5 s5 h5 => ?_⟩
    exact q _ H5 ((s1.trans s2).trans ((s3.trans s4).trans s5)) ⟨p3, p2, ps, rfl, .of h5, ⟨o2, s5 _ _ h4, d2⟩, (g3.keep (same_keep s4)).keep (same_keep s5)⟩
theorem no_settled {n : Nat} (D : Dfn K mg "settled" s_settled ["wants", "told"]) (c_looked_up : Cal P wd K mg base CX0 1 "looked_up" ["wants", "told"] (sp_looked_up K C)) (c_settled : Cal P wd K mg base CX0 (2 * n + 2) "settled" ["wants", "told"] (sp_settled K C n))
    (c_settled_row : Cal P wd K mg base CX0 (2 * n + 3) "settled_row" ["wants", "row"] (sp_settled_row K C n)) : Cal P wd K mg base CX0 (2 * n + 3 + 1) "settled" ["wants", "told"] (sp_settled K C (n + 1)) := by
  have S := sc_settled
  refine cal_of D S (fun vs H Q E h => ?_) (fun f cdv A outer s H vs Q E hr h => ?_)
  · obtain ⟨w, dk, dl, v, k, d, B, Sl, kn, rfl, _⟩ := h
    rfl
  obtain ⟨w, dk, dl, v, k, d, B, Sl, kn, rfl, W, hv, st, q⟩ := h
  have hu := hu_of hr
  refine ⟨_, (pss_cons (ps_set (i := 2) S.nd rfl (Or.inl rfl) (pe_cal c_looked_up (hr.mono (by omega)) pass0 (pa_cons (pv 0) (pa_cons (pv 1) pa_nil))))
    (pss_cons (ps_if (pt_cmpR op_eq (pe_ix ix_tup (pv 2) pe_int (fun _ _ => rfl)) pe_str (nomark _))
      (pss_one (ps_ret (pe_tup (pa_cons pe_str (pa_cons (pe_cal c_settled (hr.mono (by omega)) pass0 (pa_cons (pv 0) (pa_cons (pe_ix ix_tup (pv 2) pe_int (fun _ _ => rfl)) pa_nil))) (pa_cons (pe_cal c_settled (hr.mono (by omega)) pass0 (pa_cons (pv 0) (pa_cons (pe_ix ix_tup (pv 2) pe_int (fun _ _ => rfl)) pa_nil))) pa_nil))))))
      pss_nil)
    (pss_cons (ps_if (PW.pt (pw_or (pt_cmpR op_eq (pe_ix ix_tup (pv 2) pe_int (fun _ _ => rfl)) pe_str (nomark _)) (pw_or1 (pt_cmpR op_eq (pe_ix ix_tup (pv 2) pe_int (fun _ _ => rfl)) pe_str (nomark _)))))
      (pss_one (ps_ret (pe_tup (pa_cons (pe_ix ix_tup (pv 2) pe_int (fun _ _ => rfl)) (pa_cons (pe_cal c_settled_row hr pass0 (pa_cons (pv 0) (pa_cons (pe_ix ix_tup (pv 2) pe_int (fun _ _ => rfl)) pa_nil))) pa_nil)))))
      pss_nil)
    (pss_one (ps_ret (pv 2)))))), ?_⟩
  cases st with
  | @num _ m _ hl =>
    refine ⟨_, rfl, _, rfl, w, dk, dl, v, k, .num, m, B, Sl, kn, rfl, W, hv, hl, fun u hu => ?_⟩
    have hu' := hu
    cases hu with
    | @num p g =>
      refine ⟨_, rfl, p, _, _, _, rfl, rfl, g, atI_nat rfl, rfl, _, rfl, iteF ?_⟩
      refine ⟨_, rfl, p, _, _, _, rfl, rfl, g, atI_nat rfl, rfl, _, rfl, iteF ⟨_, rfl, p, _, _, _, rfl, rfl, g, atI_nat rfl, rfl, _, rfl, iteF ?_⟩⟩
      exact ⟨_, rfl, q _ H (Same.refl _) hu'⟩
  | @var _ m j _ hl =>
    refine ⟨_, rfl, _, rfl, w, dk, dl, v, k, .var j, m, B, Sl, kn, rfl, W, hv, hl, fun u hu => ?_⟩
    have hu' := hu
    cases hu with
    | @var p _ g =>
      refine ⟨_, rfl, p, _, _, _, rfl, rfl, g, atI_nat rfl, rfl, _, rfl, iteF ?_⟩
      refine ⟨_, rfl, p, _, _, _, rfl, rfl, g, atI_nat rfl, rfl, _, rfl, iteF ⟨_, rfl, p, _, _, _, rfl, rfl, g, atI_nat rfl, rfl, _, rfl, iteF ?_⟩⟩
      exact ⟨_, rfl, q _ H (Same.refl _) hu'⟩
  | @func _ m _ A1 B1 A' B' hl f1 f2 =>
    refine ⟨_, rfl, _, rfl, w, dk, dl, v, k, .fn A1 B1, m, B, Sl, kn, rfl, W, hv, hl, fun u hu => ?_⟩
    cases hu with
    | @fn p x y _ _ g gx gy =>
      refine ⟨_, rfl, p, _, _, _, rfl, rfl, g, atI_nat rfl, rfl, _, rfl, iteT ?_⟩
      refine ⟨_, rfl, _, rfl, p, _, _, _, rfl, rfl, g, atI_nat rfl, w, dk, dl, x, A1, A', B, Sl, kn, rfl, W, gx, f1, fun v1 H1 s1 g1 => ?_⟩
      refine ⟨_, rfl, _, rfl, p, _, _, _, rfl, rfl, sqT_keep (same_keep s1) g, atI_nat rfl, w, dk, dl, y, B1, B', B, Sl, kn, rfl, W.same s1, gy.keep (same_keep s1), f2, fun v2 H2 s2 g2 => ?_⟩
      refine ⟨(by show 3 ≤ sizeLine; decide), newO (Q := fun p H' => Q (.ref p) H') fun pp H3 n3 s3 h3 => ?_⟩
      exact q _ H3 (s1.trans (s2.trans s3)) (.fn (.of h3) ((g1.keep (same_keep s2)).keep (same_keep s3)) (g2.keep (same_keep s3)))
  | @rc _ m j _ fs fs' ds t t' hl lo nd ln sf =>
    refine ⟨_, rfl, _, rfl, w, dk, dl, v, k, .rc fs t, m, B, Sl, kn, rfl, W, hv, hl, fun u hu => ?_⟩
    cases hu with
    | @rc p r f vs _ _ g gr gf gs =>
      refine ⟨_, rfl, p, _, _, _, rfl, rfl, g, atI_nat rfl, rfl, _, rfl, iteF ?_⟩
      refine ⟨_, rfl, p, _, _, _, rfl, rfl, g, atI_nat rfl, rfl, _, rfl, iteT (iteT ?_)⟩
      refine ⟨_, rfl, p, _, _, _, rfl, rfl, g, atI_nat rfl, _, rfl, _, rfl, p, _, _, _, rfl, rfl, g, atI_nat rfl, w, dk, dl, .ref r, fs, fs', ds, t, t', j, B, Sl, kn, rfl, W, ⟨r, f, vs, rfl, gr, gf, gs⟩, ⟨lo, nd, ln, sf⟩, fun v1 H1 s1 g1 => ?_⟩
      refine ⟨(by show 2 ≤ sizeLine; decide), newO (Q := fun p H' => Q (.ref p) H') fun pp H3 n3 s3 h3 => ?_⟩
      exact q _ H3 (s1.trans s3) (isR_rec (.of h3) (g1.keep (same_keep s3)))
theorem ok_settled (D : Dfn K mg "settled" s_settled ["wants", "told"]) (D' : Dfn K mg "settled_row" s_settled_row ["wants", "row"]) (T : Txt K mg) (c_looked_up : Cal P wd K mg base CX0 1 "looked_up" ["wants", "told"] (sp_looked_up K C)) (c_laid_open : Cal P wd K mg base CX0 1 "laid_open" ["wants", "row"] (sp_laid_open K C)) :
    ∀ n, Cal P wd K mg base CX0 (2 * n + 2) "settled" ["wants", "told"] (sp_settled K C n)
  | 0 => cal_none D fun vs H Q E ⟨_, _, _, _, _, _, _, _, _, _, _, _, h, _⟩ => nomatch h
  | n + 1 => no_settled D c_looked_up (ok_settled D D' T c_looked_up c_laid_open n) (no_settled_row D' T c_laid_open (ok_settled D D' T c_looked_up c_laid_open n))
end
end Fw
/-! Fw14: Wants(), begun. -/
namespace Fw
open PySem PySem.Spec PyProof.Rows L2
abbrev s_wants : Stmt := inClass (top 14) 0
theorem sc_wants : FnScope ["self"] ["self"] (defScope s_wants) := ⟨rfl, rfl, rfl, by decide +kernel, rfl, by decide +kernel, by decide +kernel⟩
def sp_wants (C : Addr) : Sp := fun vs H Q _ => ∃ (w dx : Addr), vs = [.ref w] ∧ H w = some (.ins C dx []) ∧
  ∀ (k l : Addr) (H' : Hp), Keep (· = w) H H' → H k = none → H l = none → k ≠ l → H' w = some (.ins C dx [("known", .ref k), ("lacking", .ref l), ("fresh", .int 0)]) → H' k = some (.dK []) → H' l = some (.dK []) → Q .non H'
theorem putF_len (f : Str) (v : V) : ∀ fs : List (Str × V), (putF f v fs).length ≤ fs.length + 1
  | [] => Nat.le_refl _
  | (g, x) :: r => by
    have ih := putF_len f v r
    show (if g = f then (g, v) :: r else (g, x) :: putF f v r).length ≤ _
    split
    · simp
    · simp only [List.length_cons]; omega
theorem len1 (f : Str) (v : V) : (putF f v []).length < 1000 := by show 1 < 1000; decide
theorem len2 (f g : Str) (v u : V) : (putF g u (putF f v [])).length < 1000 := by
  have h := putF_len g u (putF f v [])
  have h2 := len1 f v
  have h3 : (putF f v []).length = 1 := rfl
  omega
section
variable {P : Program} {wd : World} {K : PySem.W.Frag} {mg : Str → Option Value} {base : Heap} {C CN : Addr}
theorem ok_wants (D : Ini K C "Wants.__init__" s_wants ["self"]) (T : TW K mg C) : CalI P wd K mg base CX0 1 C ["self"] (sp_wants C) := by
  have S := sc_wants
  refine calI_of D S (fun vs H Q E h => ?_) (fun f cdv A outer s H vs Q E hr h => ?_)
  · obtain ⟨w, dx, rfl, _⟩ := h
    rfl
  obtain ⟨w, dx, rfl, e, q⟩ := h
  refine ⟨_, (pss_cons (ps_fld (pv 0) pe_dnewK rfl)
    (pss_cons (ps_fld (pv 0) pe_dnewK rfl)
    (pss_one (ps_fld (pv 0) pe_int rfl)))), ?_⟩
  intro k nk
  refine newG nk fun H1 s1 g1 => ?_
  refine ⟨_, rfl, w, C, dx, [], rfl, s1 _ _ e, T.cl, T.nK, (by decide), ?_⟩
  refine mutG (s1 _ _ e) rfl fun H2 k2 g2 => ?_
  have k02 : Keep (· = w) H H2 := (same_keep s1).mono (fun _ z => z.elim) |>.tr k2
  have nkw : k ≠ w := (ne_of_none e nk).symm
  intro l nl
  refine newG nl fun H3 s3 g3 => ?_
  refine ⟨_, rfl, w, C, dx, _, rfl, s3 _ _ g2, T.cl, T.nL, len1 _ _, ?_⟩
  have nlw : l ≠ w := (ne_of_none g2 nl).symm
  have k2k := k2.at g1 nkw
  refine mutG (s3 _ _ g2) rfl fun H4 k4 g4 => ?_
  refine ⟨_, rfl, w, C, dx, _, rfl, g4, T.cl, T.nF, len2 _ _ _ _, ?_⟩
  refine mutG g4 rfl fun H5 k5 g5 => ?_
  have nkl : k ≠ l := ne_of_none k2k nl
  refine q k l H5 (((k02.trN (same_keep s3)).tr k4).tr k5) nk ?_ nkl g5 (k5.at (k4.at (s3 _ _ k2k) nkw) nkw) (k5.at (k4.at g3 nlw) nlw)
  exact k02.free nl nlw
end
/-! ### begun -/
inductive IsKs (K : PySem.W.Frag) (H : Hp) : List V → List Kd → Prop
  | nil : IsKs K H [] []
  | cons {v : V} {k : Kd} {vs : List V} {ks : List Kd} : IsK K H v k → IsKs K H vs ks → IsKs K H (v :: vs) (k :: ks)
/-- (row, label) pairs, the rows open without fields -/
inductive IsLk (K : PySem.W.Frag) (H : Hp) : List V → List (Nat × Str) → Prop
  | nil : IsLk K H [] []
  | cons {p : Addr} {v : V} {t : Nat} {l : Str} {vs : List V} {ls : List (Nat × Str)} : SqT K H p [v, .str l] → IsR K H v [] (some t) → IsLk K H vs ls → IsLk K H (.ref p :: vs) ((t, l) :: ls)
section
variable {K : PySem.W.Frag} {H H' : Hp} {S : Addr → Prop}
theorem IsKs.keep (k : Keep S H H') : ∀ {vs : List V} {ks : List Kd}, IsKs K H vs ks → IsKs K H' vs ks
  | _, _, .nil => .nil
  | _, _, .cons a b => .cons (a.keep k) (IsKs.keep k b)
theorem IsKs.length : ∀ {vs : List V} {ks : List Kd}, IsKs K H vs ks → vs.length = ks.length
  | _, _, .nil => rfl
  | _, _, .cons a b => by simp [b.length]
theorem IsKs.get : ∀ {vs : List V} {ks : List Kd} {i : Nat} {v : V}, IsKs K H vs ks → vs[i]? = some v → ∃ k, ks[i]? = some k ∧ IsK K H v k
  | _, _, _, _, .nil, e => by simp at e
  | _, _, 0, _, .cons a b, e => by
    simp at e
    subst e
    exact ⟨_, rfl, a⟩
  | _, _, i + 1, _, .cons a b, e => by
    obtain ⟨k, h1, h2⟩ := b.get (i := i) (by simpa using e)
    exact ⟨k, by simpa using h1, h2⟩
theorem IsKs.app : ∀ {vs us : List V} {ks ls : List Kd}, IsKs K H vs ks → IsKs K H us ls → IsKs K H (vs ++ us) (ks ++ ls)
  | _, _, _, _, .nil, h => h
  | _, _, _, _, .cons a b, h => .cons a (IsKs.app b h)
theorem IsLk.keep (k : Keep S H H') : ∀ {vs : List V} {ks : List (Nat × Str)}, IsLk K H vs ks → IsLk K H' vs ks
  | _, _, .nil => .nil
  | _, _, .cons a b c => .cons (sqT_keep k a) (b.keep k) (IsLk.keep k c)
theorem IsLk.length : ∀ {vs : List V} {ks : List (Nat × Str)}, IsLk K H vs ks → vs.length = ks.length
  | _, _, .nil => rfl
  | _, _, .cons a b c => by simp [c.length]
theorem IsLk.get : ∀ {vs : List V} {ks : List (Nat × Str)} {i : Nat} {v : V}, IsLk K H vs ks → vs[i]? = some v → ∃ p r t l, v = .ref p ∧ SqT K H p [r, .str l] ∧ IsR K H r [] (some t) ∧ (t, l) ∈ ks
  | _, _, _, _, .nil, e => by simp at e
  | _, _, 0, _, .cons a b c, e => by
    simp at e
    subst e
    exact ⟨_, _, _, _, rfl, a, b, List.mem_cons_self⟩
  | _, _, i + 1, _, .cons a b c, e => by
    obtain ⟨p, r, t, l, h1, h2, h3, h4⟩ := c.get (i := i) (by simpa using e)
    exact ⟨p, r, t, l, h1, h2, h3, List.mem_cons_of_mem _ h4⟩
theorem IsLk.app : ∀ {vs us : List V} {ks ls : List (Nat × Str)}, IsLk K H vs ks → IsLk K H us ls → IsLk K H (vs ++ us) (ks ++ ls)
  | _, _, _, _, .nil, h => h
  | _, _, _, _, .cons a b c, h => .cons a b (IsLk.app c h)
end
def numsL : List Kd → List Nat
  | [] => []
  | k :: r => k.nums ++ numsL r
theorem numsL_append : ∀ a b : List Kd, numsL (a ++ b) = numsL a ++ numsL b
  | [], _ => rfl
  | k :: r, b => by simp [numsL, numsL_append r b]
theorem numsL_take {ks : List Kd} {i : Nat} {k : Kd} (h : ks[i]? = some k) : numsL (ks.take (i + 1)) = numsL (ks.take i) ++ k.nums := by
  rw [take_snoc h, numsL_append]
  simp [numsL]
theorem numsL_take_len (ks : List Kd) (i : Nat) : (numsL (ks.take i)).length ≤ (numsL ks).length := by
  have h : numsL ks = numsL (ks.take i) ++ numsL (ks.drop i) := by rw [← numsL_append, List.take_append_drop]
  rw [h, List.length_append]
  omega
abbrev s_begun : Stmt := top 27
theorem sc_begun : FnScope ["kinds", "lacks", "wants", "seen", "tails", "told", "tail", "labels", "row", "label"] ["kinds", "lacks"] (defScope s_begun) := ⟨rfl, rfl, rfl, by decide +kernel, rfl, by decide +kernel, by decide +kernel⟩
def sp_begun (K : PySem.W.Frag) (C : Addr) : Sp := fun vs H Q _ => ∃ (L1 L2 : Addr) (xs ys : List V) (ks : List Kd) (lks : List (Nat × Str)) (B : Bd), vs = [.ref L1, .ref L2] ∧ H L1 = some (.lst xs) ∧ H L2 = some (.lst ys) ∧ IsKs K H xs ks ∧ IsLk K H ys lks ∧
  (∀ k ∈ ks, k.dp < 4 ∧ k.bnd B) ∧ (∀ t l, (t, l) ∈ lks → t < B.N ∧ B.Tk t ∧ l ∈ B.U ∧ B.Lk t l) ∧ (numsL ks).length ≤ 10000 ∧ B.N ≤ 100000 ∧ B.U.length ≤ 1000 ∧
  ∀ (p w dk dl a : Addr) (Sl : Addr → Prop) (H' : Hp), Same H H' → H' p = some (.tup [.ref w, .ref a]) → WA K C B H' w dk dl Sl (fun _ => none) → H' a = some (.dK (addN [] (numsL ks))) → H w = none → (∀ b, Ft dk Sl b → H b = none) → ¬ Sl a → a ≠ dk → H a = none → Q (.ref p) H'
theorem WA.offS {K : PySem.W.Frag} {C : Addr} {B : Bd} {H H' : Hp} {w dk dl : Addr} {Sl S : Addr → Prop} {kn : Kn} (h : WA K C B H w dk dl Sl kn) (k : Keep S H H') (n1 : ¬ S w) (n2 : ¬ S dk) (n3 : ∀ b, Sl b → ¬ S b) : WA K C B H' w dk dl Sl kn := by
  obtain ⟨dx, fs, e, f⟩ := h.ins
  exact ⟨⟨dx, fs, k.at e n1, f⟩, h.kn.keep k n2, lk_keep h.lk k n3, h.nw, h.nk, h.bN, h.bU⟩
theorem inn_list {B : Bd} {t : Nat} : ∀ {ls : KVs}, (∀ e ∈ ls, ∃ x, e.1 = Sum.inr x ∧ x ∈ B.U ∧ B.Lk t x) → ∃ xs : List Str, (ls.map fun kv => kV kv.1) = xs.map V.str ∧ ∀ l ∈ xs, l ∈ B.U ∧ B.Lk t l
  | [], _ => ⟨[], rfl, fun l hl => by cases hl⟩
  | e :: r, h => by
    obtain ⟨xs, x1, x2⟩ := inn_list fun e he => h e (List.mem_cons_of_mem _ he)
    obtain ⟨y, y1, y2⟩ := h e List.mem_cons_self
    refine ⟨y :: xs, ?_, fun l hl => ?_⟩
    · rw [List.map_cons, List.map_cons, x1, y1]
      rfl
    · rcases List.mem_cons.mp hl with rfl | hl
      · exact y2
      · exact x2 l hl
/-- what began new, over a step -/
theorem same_w {S S' : Addr → Prop} {H G G' : Hp} (s : Same H G) (k : WStep S G S' G') (n : ∀ b, S b → H b = none) : Same H G' ∧ ∀ b, S' b → H b = none := by
  refine ⟨fun b o e => k.1.at (s b o e) (fun z => by rw [n b z] at e; cases e), fun b z => (k.2 b z).elim (n b) fun z => ?_⟩
  cases q : H b with
  | none => rfl
  | some o => rw [s b o q] at z; cases z
section
variable {P : Program} {wd : World} {K : PySem.W.Frag} {mg : Str → Option Value} {base : Heap} {C CN : Addr}
theorem ok_begun (D : Dfn K mg "begun" s_begun ["kinds", "lacks"]) (T : Txt K mg) (T' : TW K mg C) (c_wants : CalI P wd K mg base CX0 1 C ["self"] (sp_wants C)) (c_note_numbers : Cal P wd K mg base CX0 4 "note_numbers" ["told", "seen"] (sp_note_numbers K 4))
    (c_note_tails : Cal P wd K mg base CX0 4 "note_tails" ["told", "seen"] (sp_note_tails K 4)) (c_must_lack : CalM P wd K mg base CX0 1 C "must_lack" ["self", "tail", "labels"] (sp_must_lack K C)) :
    Cal P wd K mg base CX0 5 "begun" ["kinds", "lacks"] (sp_begun K C) := by
  have S := sc_begun
  refine cal_of D S (fun vs H Q E h => ?_) (fun f cdv A outer s H vs Q E hr h => ?_)
  · obtain ⟨L1, L2, xs, ys, ks, lks, B, rfl, _⟩ := h
    rfl
  obtain ⟨L1, L2, xs, ys, ks, lks, B, rfl, hL1, hL2, ik, il, hk, hlk, hn, bN, bU, q⟩ := h
  have hu := hu_of hr
  refine ⟨_, (pss_cons (ps_set (i := 2) S.nd rfl (Or.inl rfl) (pe_mak0 T'.mgW c_wants (hr.mono (by decide)) pass0))
    (pss_cons (ps_set (i := 3) S.nd rfl (Or.inl rfl) pe_dnewK)
    (pss_cons (ps_set (i := 4) S.nd rfl (Or.inl rfl) pe_dnewK)
    (pss_cons (ps_for PassesOwn.never rfl (pi_list (pv 0)) (pg_name (i := 5) S.nd rfl (Or.inl rfl))
      (pss_cons (ps_expr (pe_cal c_note_numbers hr pass0 (pa_cons (pv 5) (pa_cons (pv 3) pa_nil))))
      (pss_one (ps_expr (pe_cal c_note_tails hr pass0 (pa_cons (pv 5) (pa_cons (pv 4) pa_nil)))))))
    (pss_cons (ps_lock (ps_for PassesOwn.never rfl (pi_items (pv 4)) (pg_tup rfl (pgs_cons (pg_name (i := 6) S.nd rfl (Or.inl rfl)) (pgs_cons (pg_name (i := 7) S.nd rfl (Or.inl rfl)) pgs_nil)))
      (pss_one (ps_expr (pe_met (pv 2) T'.cl c_must_lack (hr.mono (by decide)) pass0 (pa_cons (pv 6) (pa_cons (pe_callTy (call_list_dK rfl) rfl T.list (by decide +kernel) (pa_cons (pv 7) pa_nil)) pa_nil)))))))
    (pss_cons (ps_for PassesOwn.never rfl (pi_list (pv 1)) (pg_tup rfl (pgs_cons (pg_name (i := 8) S.nd rfl (Or.inl rfl)) (pgs_cons (pg_name (i := 9) S.nd rfl (Or.inl rfl)) pgs_nil)))
      (pss_cons (ps_if (pt_cmp (pc_din hu (pv 9) (pe_callTy (call_dictT rfl) rfl T.dict (by decide +kernel) (pa_cons (pe_ix ix_tup (pv 8) pe_int (fun _ _ => rfl)) pa_nil))))
        pss_never
        pss_nil)
      (pss_one (ps_expr (pe_met (pv 2) T'.cl c_must_lack (hr.mono (by decide)) pass0 (pa_cons (pe_ix ix_tup (pv 8) pe_int (fun _ _ => rfl)) (pa_cons (pe_lst (pa_cons (pv 9) pa_nil)) pa_nil)))))))
    (pss_cons (ps_fld (pv 2) (pe_op op_add pe_int (pe_callBK (cr_maxD rfl) rfl T.max (by decide +kernel) (pa_cons (pv 3) pa_nil) (pk_cons (pe_un un_neg pe_int) pk_nil))) rfl)
    (pss_one (ps_ret (pe_tup (pa_cons (pv 2) (pa_cons (pv 3) pa_nil)))))))))))), ?_⟩
  intro w dx nw ndx ndw
  refine ⟨w, dx, rfl, upd_same, fun k l H1 kw nk0 nl0 nkl gw gk gl => ⟨rfl, ?_⟩⟩
  have un : ∀ {b}, (upd (upd H dx (.own w)) w (.ins C dx [])) b = none → H b = none ∧ b ≠ w := fun {b} e => by
    by_cases h1 : b = w
    · rw [h1, upd_same] at e; cases e
    · rw [upd_ne h1] at e
      by_cases h2 : b = dx
      · rw [h2, upd_same] at e; cases e
      · rw [upd_ne h2] at e
        exact ⟨e, h1⟩
  obtain ⟨nk, nkw⟩ := un nk0
  obtain ⟨nl, nlw⟩ := un nl0
  have s1 : Same H H1 := fun b o e => by
    have h1 : b ≠ w := ne_of_none e nw
    have h2 : b ≠ dx := ne_of_none e ndx
    exact kw.at (by rw [upd_ne h1, upd_ne h2]; exact e) h1
  have W1 : WA K C B H1 w k l (· = l) (fun _ => none) := ⟨⟨dx, _, gw, ⟨rfl, rfl, (by show 3 ≤ 10; decide), rfl, rfl⟩⟩, ⟨[], gk, List.nodup_nil, (fun e h => by cases h), fun m => .inl ⟨rfl, rfl⟩⟩, lk_new gl, nlw.symm, nkl, bN, bU⟩
  intro a na
  refine newG na fun H2 s2 g2 => ?_
  intro d nd
  refine newG nd fun H3 s3 g3 => ?_
  have naw : a ≠ w := (ne_of_none gw na).symm
  have nak : a ≠ k := (ne_of_none gk na).symm
  have nal : a ≠ l := (ne_of_none gl na).symm
  have nda : d ≠ a := (ne_of_none g2 nd).symm
  have ndw' : d ≠ w := (ne_of_none (s2 _ _ gw) nd).symm
  have ndk : d ≠ k := (ne_of_none (s2 _ _ gk) nd).symm
  have ndl : d ≠ l := (ne_of_none (s2 _ _ gl) nd).symm
  have na' : H a = none := s1.free na
  have nd' : H d = none := (s1.trans s2).free nd
  have s13 := (s1.trans s2).trans s3
  have ll := ik.length
  refine ⟨_, rfl, L1, rfl, ⟨_, .of (s13 _ _ hL1)⟩, for_list (K := K) (a := L1) (xs := xs) (fun i σ G => ∃ (x : Option V) (St : Addr → Prop), σ = [some (.ref L1), some (.ref L2), some (.ref w), some (.ref a), some (.ref d), x, none, none, none, none] ∧ Same H G ∧ G w = some (.ins C dx [("known", .ref k), ("lacking", .ref l), ("fresh", .int 0)]) ∧
      WA K C B G w k l (· = l) (fun _ => none) ∧ G a = some (.dK (addN [] (numsL (ks.take i)))) ∧ LkAt B G d St ∧ (∀ b, St b → H b = none) ∧ ¬ St a ∧ ¬ St w ∧ ¬ St k ∧ ¬ St l)
    ⟨none, (· = d), rfl, s13, s3 _ _ (s2 _ _ gw), (W1.same s2).same s3, s3 _ _ g2, lk_new g3, (fun b z => by rw [z]; exact nd'), nda.symm, ndw'.symm, ndk.symm, ndl.symm⟩ (fun i σ G _ ⟨_, _, _, sg, _⟩ => .of (sg _ _ hL1)) ?_ ?_⟩
  · rintro i v σ G hi ⟨x, St, rfl, sg, gw1, W, ga, ld, n0, n1, n2, n3, n4⟩
    obtain ⟨kd, hkd, iv⟩ := ik.get hi
    obtain ⟨h1, h2⟩ := hk kd (List.mem_of_getElem? hkd)
    have ln1 := addN_len (numsL (ks.take i)) []
    have ln2 := numsL_take_len ks (i + 1)
    rw [numsL_take hkd, List.length_append] at ln2
    simp only [List.length_nil] at ln1
    refine ⟨_, rfl, _, rfl, v, a, kd, _, rfl, iv.keep (same_keep sg), h1, ga, by omega, fun G1 k1 g1 => ?_⟩
    have sg1 : Same H G1 := same_over sg k1 na'
    have W1' := W.off k1 naw nak nal
    refine ⟨_, rfl, _, rfl, v, d, kd, B, St, rfl, iv.keep (same_keep sg1), h1, h2, bN, bU, lk_keep ld k1 (fun b z e => n1 (e ▸ z)), fun St' G2 k2 L2' _ => ?_⟩
    have ex : ∀ {c o}, G1 c = some o → ¬ St c → ¬ St' c := fun {c o} e n z => (k2.2 c z).elim n fun z => by rw [e] at z; cases z
    obtain ⟨dk0, fs0, ew, _⟩ := id W1'.ins
    have gk1 : ∃ o, G1 k = some o := by
      obtain ⟨kv, e, _⟩ := id W1'.kn
      exact ⟨_, e⟩
    have gl1 : ∃ o, G1 l = some o := by
      obtain ⟨kv, e⟩ := id W1'.lk.2 l rfl
      exact ⟨_, e⟩
    obtain ⟨ok, gk1⟩ := gk1
    obtain ⟨ol, gl1⟩ := gl1
    obtain ⟨s5, n5⟩ := same_w sg1 k2 n0
    refine ⟨some v, St', rfl, s5, k2.1.at (k1.at gw1 naw.symm) n2, W1'.offS k2.1 n2 n3 (fun b z => by rw [z]; exact n4), ?_, L2', n5, ex g1 n1, ex ew n2, ex gk1 n3, ex gl1 n4⟩
    rw [numsL_take hkd, addN_append]
    exact k2.1.at g1 n1
  rintro σ G ⟨x, St, rfl, sg, gw1, W, ga, ld, n0, n1, n2, n3, n4⟩
  rw [ll, List.take_length] at ga
  obtain ⟨⟨kvs, on⟩, hin⟩ := id ld
  obtain ⟨o0, o1, o2, o3, o4⟩ := id on
  refine lock_items (d := d) (kvs := kvs) o0 (fun od i σ G' => ∃ (y z : Option V) (Sl : Addr → Prop), σ = [some (.ref L1), some (.ref L2), some (.ref w), some (.ref a), some (.ref d), x, y, z, none, none] ∧ G' d = some (.frz od (.dK kvs)) ∧ G' w = some (.ins C dx [("known", .ref k), ("lacking", .ref l), ("fresh", .int 0)]) ∧
      WA K C B G' w k l Sl (fun _ => none) ∧ ¬ Sl d ∧ ¬ Sl a ∧ WStep (fun b => b = d ∨ b = l) G (fun b => b = d ∨ Sl b) G')
    (fun od R h => ⟨_, rfl, h⟩) (fun od => ⟨none, none, (· = l), rfl, upd_same, by rw [upd_ne ndw'.symm]; exact gw1, W.off (keep_upd o0 rfl rfl) ndw' ndk ndl, ndl, nal, keep_upd o0 rfl (.inl rfl), fun b z => .inl z⟩) (fun od i σ G' ⟨_, _, _, _, h, _⟩ => h) ?_ ?_
  · rintro od i kk v σ G1 T2 G2 r bb cc e1 ⟨y, z, Sl, rfl, c1, c2, W1', c3, c3', c4⟩ hT s4 g4
    refine ⟨T2, _, rfl, .of g4, rfl, _, _, rfl, _, _, rfl, rfl, ?_⟩
    obtain ⟨t, b, eb, bt, bT, bS, bd, inn⟩ := o4 _ (List.mem_of_getElem? e1)
    cases eb
    obtain ⟨ls, i0, i1, i2⟩ := id inn
    have nlb : ¬ (b = d ∨ Sl b) := by
      rintro (z | z)
      · exact bd z
      · rcases c4.2 b (.inr z) with (z | z) | z
        · exact bd z
        · exact n4 (z ▸ bS)
        · rw [i0] at z; cases z
    have gb : G1 b = some (.dK ls) := c4.1.at i0 (by rintro (z | z); exact bd z; exact n4 (z ▸ bS))
    have W2 := W1'.same s4
    obtain ⟨xs2, x1, x2⟩ := inn_list i2
    obtain ⟨dx2, fs2, ew, f2⟩ := id W2.ins
    refine ⟨_, rfl, w, dx2, fs2, rfl, ew, f2.m1, _, rfl, _, rfl, b, ls, rfl, s4 _ _ gb, fun q nq => ?_⟩
    refine newG nq fun G3 s5 g5 => ?_
    rw [x1] at g5
    refine ⟨w, k, l, q, some t, xs2, B, Sl, _, rfl, W2.same s5, g5, fun n e => ?_, fun Sl' G4 k4 L4 => ?_⟩
    · cases e
      exact ⟨bt, bT, x2⟩
    · have W3 := (W2.same s5).lput k4 L4
      have s45 := s4.trans s5
      have ex : ∀ {c o}, G1 c = some o → ¬ Sl c → ¬ Sl' c := fun {c o} e n z => (k4.2 c z).elim n fun z => by rw [s45 _ _ e] at z; cases z
      refine ⟨_, _, Sl', rfl, k4.1.at (s45 _ _ c1) c3, k4.1.at (s45 _ _ c2) W1'.nw, W3, ex c1 c3, ?_, ?_⟩
      · have ga1 : G1 a = some _ := c4.1.at ga (by rintro (z | z); exact nda z.symm; exact nal z)
        exact ex ga1 c3'
      · refine WStep.trans c4 (WStep.trans (S1 := fun b => b = d ∨ Sl b) ⟨(same_keep s45).mono (fun _ z => z.elim), fun _ z => .inl z⟩ ⟨k4.1.mono fun _ z => .inr z, fun b z => z.elim (fun z => .inl (.inl z)) fun z => (k4.2 b z).imp .inr id⟩)
  rintro od σ G1 ⟨y, z, Sl, rfl, c1, c2, W1', c3, c3', c4⟩
  obtain ⟨s5, n5⟩ := same_w sg c4 (by rintro b (z | z); rw [z]; exact nd'; rw [z]; exact nl)
  have kd : Keep (· = d) G1 (upd G1 d (.dK kvs)) := keep_upd c1 rfl rfl
  have W2 := W1'.off kd ndw' ndk c3
  have s6 : Same H (upd G1 d (.dK kvs)) := same_over s5 kd nd'
  have ga1 : (upd G1 d (.dK kvs)) a = some (.dK (addN [] (numsL ks))) := kd.at (c4.1.at ga (by rintro (z | z); exact nda z.symm; exact nal z)) nda.symm
  have c2' : (upd G1 d (.dK kvs)) w = some _ := kd.at c2 ndw'.symm
  have n6 : ∀ b, Sl b → H b = none := fun b z => n5 b (.inr z)
  generalize upd G1 d (.dK kvs) = G2 at W2 s6 ga1 c2'
  have ll2 := il.length
  refine ⟨_, rfl, L2, rfl, ⟨_, .of (s6 _ _ hL2)⟩, for_list (K := K) (a := L2) (xs := ys) (fun i σ G => ∃ (u1 u2 : Option V) (Sl : Addr → Prop), σ = [some (.ref L1), some (.ref L2), some (.ref w), some (.ref a), some (.ref d), x, y, z, u1, u2] ∧ Same H G ∧ G w = some (.ins C dx [("known", .ref k), ("lacking", .ref l), ("fresh", .int 0)]) ∧
      WA K C B G w k l Sl (fun _ => none) ∧ G a = some (.dK (addN [] (numsL ks))) ∧ (∀ b, Sl b → H b = none) ∧ ¬ Sl a)
    ⟨none, none, Sl, rfl, s6, c2', W2, ga1, n6, c3'⟩ (fun i σ G _ ⟨_, _, _, _, sg, _⟩ => .of (sg _ _ hL2)) ?_ ?_⟩
  · clear W2 ga1 n6 c3' c2'
    rintro i v σ G3 hi ⟨u1, u2, Sl, rfl, s7, c2', W2, ga1, n6, c3'⟩
    obtain ⟨p, r, t, lb, rfl, p1, p2, p3⟩ := il.get hi
    obtain ⟨b1, b2, b3, b4⟩ := hlk t lb p3
    obtain ⟨r, fr, vs, rfl, q1, q2, q3⟩ := p2
    cases q3
    refine ⟨p, _, rfl, sqT_keep (same_keep s7) p1, rfl, _, _, rfl, _, _, rfl, rfl, ?_⟩
    refine ⟨_, rfl, _, rfl, r, _, _, _, rfl, rfl, sqT_keep (same_keep s7) q1, atI_nat rfl, fr, [], [], rfl, q2.keep (same_keep s7), .nil, fun q nq => ?_⟩
    refine newG nq fun G4 s8 g8 => ?_
    refine ⟨q, none, rfl, .inl ⟨[], Sum.inr lb, .of g8, rfl, rfl⟩, _, rfl, iteF ?_⟩
    have W3 := W2.same s8
    have s78 := s7.trans s8
    obtain ⟨dx2, fs2, ew, f2⟩ := id W3.ins
    refine ⟨_, rfl, w, dx2, fs2, rfl, ew, f2.m1, _, rfl, r, _, _, _, rfl, rfl, sqT_keep (same_keep s78) q1, atI_nat rfl, _, rfl, (by show 1 ≤ sizeLine; decide), fun q' nq' => ?_⟩
    refine newG nq' fun G5 s9 g9 => ?_
    refine ⟨w, k, l, q', some t, [lb], B, Sl, _, rfl, W3.same s9, g9, fun n e => ?_, fun Sl' G6 k6 L6 => ?_⟩
    · cases e
      refine ⟨b1, b2, fun x hx => ?_⟩
      rw [List.mem_singleton] at hx
      rw [hx]
      exact ⟨b3, b4⟩
    · have W4 := (W3.same s9).lput k6 L6
      obtain ⟨s10, n10⟩ := same_w (s78.trans s9) k6 n6
      have s89 := s8.trans s9
      refine ⟨_, _, Sl', rfl, s10, k6.1.at (s89 _ _ c2') W2.nw, W4, k6.1.at (s89 _ _ ga1) c3', n10, fun z => (k6.2 a z).elim c3' fun z => by rw [s89 _ _ ga1] at z; cases z⟩
  clear W2 ga1 n6 c3' c2'
  rintro σ G3 ⟨u1, u2, Sl, rfl, s7, c2', W2, ga1, n6, c3'⟩
  refine ⟨_, rfl, _, rfl, a, _, -1, rfl, rfl, ga1, fun e he => ?_, fun zi => ?_⟩
  · have key : ∀ (ns : List Nat) (kv : KVs), (∀ e ∈ kv, ∃ i : Int, e.1 = Sum.inl i) → ∀ e ∈ addN kv ns, ∃ i : Int, e.1 = Sum.inl i := by
      intro ns
      induction ns with
      | nil => exact fun kv h => h
      | cons n r ih =>
        intro kv h
        refine ih (setN kv n) fun e he => ?_
        unfold setN at he
        split at he
        · exact h e he
        · next hv =>
          rw [putK_new _ hv] at he
          rcases List.mem_append.mp he with he | he
          · exact h e he
          · rw [List.mem_singleton] at he
            rw [he]
            exact ⟨_, rfl⟩
    exact key _ [] (fun e h => by cases h) e he
  refine ⟨_, _, rfl, rfl, _, rfl, w, C, dx, _, rfl, c2', T'.cl, T'.nF, (by show 3 < 1000; decide), ?_⟩
  refine mutG c2' rfl fun G4 k4 g4 => ?_
  have nka : a ≠ w := naw
  have W3 : WA K C B G4 w k l Sl (fun _ => none) := ⟨⟨dx, _, g4, ⟨by rw [lookup_putF]; rfl, by rw [lookup_putF]; rfl, Nat.le_trans (putF_len _ _ _) (by show 4 ≤ 10; decide), by rw [lookup_putF]; rfl, by rw [lookup_putF]; rfl⟩⟩, W2.kn.keep k4 (fun z => W2.nwk z.symm), lk_keep W2.lk k4 (fun b z e => W2.nw (e ▸ z)), W2.nw, W2.nk, bN, bU⟩
  refine ⟨_, rfl, _, rfl, (by show 2 ≤ sizeLine; decide), fun p np => ?_⟩
  refine newG np fun G5 s5 g5 => ?_
  have s8 : Same H G4 := same_over s7 k4 nw
  exact q p w k l a Sl G5 (s8.trans s5) g5 (W3.same s5) (s5 _ _ (k4.at ga1 naw)) nw (fun b z => z.elim (fun z => by rw [z]; exact nk) (n6 b)) c3' nak na'
end
end Fw
/-! Fw15: solved. -/
namespace Fw
open PySem PySem.Spec PyProof.Rows L2
/-- [.. for k in d], d locked -/
theorem lcl_keys {d : Addr} {kvs : KVs} {td te : TE} {g : TG} {tt : TT} {vs : List Nat} {σ : L2.St} {H : Hp} {Q : VK} (hd : H d = some (.dK kvs)) (htd : ∀ od (R : VK), R (V.ref d) (upd H d (.frz od (.dK kvs))) → td σ (upd H d (.frz od (.dK kvs))) R)
    (h : ∀ od D, (upd H d (.frz od (.dK kvs))) D = none → ∃ Pv : Nat → Hp → Prop, Pv 0 (upd (upd H d (.frz od (.dK kvs))) D (.lst [])) ∧ (∀ i G, Pv i G → G d = some (.frz od (.dK kvs))) ∧
      (∀ i k v G, kvs[i]? = some (k, v) → Pv i G → g (kV k) (wipe σ vs) G fun σ2 H2 => wipe σ2 vs = wipe σ vs ∧ tt σ2 H2 fun b H3 =>
        if b = true then te σ2 H3 fun y H4 => ∃ acc, H4 D = some (.lst acc) ∧ acc.length < sizeLine ∧ Pv (i + 1) (upd H4 D (.lst (acc ++ [y]))) else Pv (i + 1) H3) ∧ (∀ G, Pv kvs.length G → Q (.ref D) (upd G d (.dK kvs)))) : tLockE (tLc (iKeys td) g tt te vs) σ H Q := by
  refine ⟨d, .dK kvs, hd, True.intro, fun od => ?_⟩
  refine htd od _ ⟨d, od, rfl, .inl ⟨kvs, upd_same, fun D nD => ?_⟩⟩
  obtain ⟨Pv, p0, pl, ps, pe⟩ := h od D nD
  refine ⟨fun i m G => m = kvs.length - i ∧ i ≤ kvs.length ∧ Pv i G, ⟨kvs.length, by simp, Nat.zero_le _, p0⟩, ?_⟩
  rintro i m G ⟨rfl, hi, p⟩
  have gd := pl i G p
  by_cases hlt : i < kvs.length
  · refine .inr ⟨⟨gd, hlt⟩, Pv (i + 1), fun H' p' => ⟨kvs.length - (i + 1), by omega, rfl, hlt, p'⟩, fun x H' y => ?_⟩
    obtain ⟨e0, k, v, e1, e2⟩ := y
    subst e0
    subst e2
    exact ps i k v _ e1 p
  · have e : i = kvs.length := by omega
    subst e
    exact .inl ⟨⟨gd, Nat.le_refl _⟩, gd, pe G p⟩
/-- all pairs, one after the other -/
inductive Mws (B : Bd) : Kn → List (Kd × Kd) → Kn → Prop
  | nil {kn : Kn} : Mws B kn [] kn
  | cons {kn kn1 kn' : Kn} {a b : Kd} {n : Nat} {ws : List (Kd × Kd)} : Mw B kn [(a, b)] n kn1 → n ≤ 200 → Mws B kn1 ws kn' → Mws B kn ((a, b) :: ws) kn'
theorem Mws.app {B : Bd} : ∀ {kn kn1 kn' : Kn} {ws us : List (Kd × Kd)}, Mws B kn ws kn1 → Mws B kn1 us kn' → Mws B kn (ws ++ us) kn'
  | _, _, _, _, _, .nil, h => h
  | _, _, _, _, _, .cons a b c, h => .cons a b (Mws.app c h)
theorem Mws.get {B : Bd} {kn kn' : Kn} {ws : List (Kd × Kd)} {i : Nat} {a b : Kd} (h : Mws B kn (ws.drop i) kn') (e : ws[i]? = some (a, b)) : ∃ kn1 n, Mw B kn [(a, b)] n kn1 ∧ n ≤ 200 ∧ Mws B kn1 (ws.drop (i + 1)) kn' := by
  obtain ⟨hi, e⟩ := List.getElem?_eq_some_iff.mp e
  rw [List.drop_eq_getElem_cons hi, e] at h
  cases h with
  | cons h1 h2 h3 => exact ⟨_, _, h1, h2, h3⟩
def flatP : List (Kd × Kd) → List Kd
  | [] => []
  | (a, b) :: r => a :: b :: flatP r
theorem flatP_append : ∀ a b : List (Kd × Kd), flatP (a ++ b) = flatP a ++ flatP b
  | [], _ => rfl
  | (x, y) :: r, b => by simp [flatP, flatP_append r b]
theorem flatP_mem : ∀ {ws : List (Kd × Kd)} {k : Kd}, k ∈ flatP ws → ∃ p ∈ ws, k = p.1 ∨ k = p.2
  | (a, b) :: r, k, h => by
    rcases List.mem_cons.mp h with h | h
    · exact ⟨(a, b), List.mem_cons_self, .inl h⟩
    rcases List.mem_cons.mp h with h | h
    · exact ⟨(a, b), List.mem_cons_self, .inr h⟩
    obtain ⟨p, h1, h2⟩ := flatP_mem h
    exact ⟨p, List.mem_cons_of_mem _ h1, h2⟩
/-- all kinds that the wants name -/
def kindsOf (prs : List (Kd × Kd)) (lks : List (Nat × Str)) : List Kd := (lks.map fun e => Kd.rc [] (some e.1)) ++ flatP prs
theorem IsW.get {K : PySem.W.Frag} {H : Hp} : ∀ {vs : List V} {ws : List (Kd × Kd)} {i : Nat} {x : V}, IsW K H vs ws → vs[i]? = some x → ∃ p u v a b, x = .ref p ∧ SqT K H p [u, v] ∧ IsK K H u a ∧ IsK K H v b ∧ ws[i]? = some (a, b)
  | _, _, _, _, .nil, e => by simp at e
  | _, _, 0, _, .cons a b c d, e => by
    simp at e
    subst e
    exact ⟨_, _, _, _, _, rfl, a, b, c, rfl⟩
  | _, _, i + 1, _, .cons a b c d, e => by
    obtain ⟨p, u, v, a', b', h1, h2, h3, h4, h5⟩ := IsW.get d (i := i) (by simpa using e)
    exact ⟨p, u, v, a', b', h1, h2, h3, h4, by simpa using h5⟩
theorem IsLk.get2 {K : PySem.W.Frag} {H : Hp} : ∀ {vs : List V} {ks : List (Nat × Str)} {i : Nat} {v : V}, IsLk K H vs ks → vs[i]? = some v → ∃ p r t l, v = .ref p ∧ SqT K H p [r, .str l] ∧ IsR K H r [] (some t) ∧ ks[i]? = some (t, l)
  | _, _, _, _, .nil, e => by simp at e
  | _, _, 0, _, .cons a b c, e => by
    simp at e
    subst e
    exact ⟨_, _, _, _, rfl, a, b, rfl⟩
  | _, _, i + 1, _, .cons a b c, e => by
    obtain ⟨p, r, t, l, h1, h2, h3, h4⟩ := c.get2 (i := i) (by simpa using e)
    exact ⟨p, r, t, l, h1, h2, h3, by simpa using h4⟩
inductive StlE (kn : Kn) (n : Nat) : En → En → Prop
  | kd {k d : Kd} : Stl kn n k d → StlE kn n (.kd k) (.kd d)
  | row {fs fs' ds : List (Str × Kd)} {t t' : Option Nat} {j : Nat} : StlR kn n fs t fs' ds t' j → StlE kn n (.row fs t) (.row ds t')
def filK (ns : List Nat) (kn : Kn) (g : Nat → En) : Kn := fun m => if m ∈ ns then (kn m).map fun _ => g m else none
open Classical in
noncomputable def filI (seen : KVs) (i : Nat) (kn : Kn) (g : Nat → En) : Kn := fun (m : Nat) => if (Sum.inl (m : Int) : L2.Key) ∈ (seen.take i).map (fun (e : L2.Key × V) => e.1) then (kn m).map fun _ => g m else none
theorem setN_keys (kv : KVs) (n : Nat) (k : L2.Key) : k ∈ (setN kv n).map (·.1) ↔ k ∈ kv.map (·.1) ∨ k = Sum.inl (n : Int) := by
  unfold setN
  split
  · next v hv =>
    have : (Sum.inl (n : Int) : L2.Key) ∈ kv.map (·.1) := List.mem_map.mpr ⟨_, valV_mem hv, rfl⟩
    constructor
    · exact .inl
    · rintro (h | h)
      · exact h
      · rw [h]; exact this
  · next hv =>
    rw [putK_new _ hv, List.map_append, List.mem_append]
    simp
theorem addN_keys : ∀ (ns : List Nat) (kv : KVs) (k : L2.Key), k ∈ (addN kv ns).map (·.1) ↔ k ∈ kv.map (·.1) ∨ ∃ n ∈ ns, k = Sum.inl (n : Int)
  | [], kv, k => by simp [addN]
  | n :: r, kv, k => by
    have ih := addN_keys r (setN kv n) k
    show k ∈ (addN (setN kv n) r).map (·.1) ↔ _
    rw [ih, setN_keys]
    simp only [List.mem_cons, exists_eq_or_imp]
    constructor
    · rintro ((h | h) | h)
      · exact .inl h
      · exact .inr (.inl h)
      · exact .inr (.inr h)
    · rintro (h | h | h)
      · exact .inl (.inl h)
      · exact .inl (.inr h)
      · exact .inr h
def IsTs (K : PySem.W.Frag) (H : Hp) (us : List V) : Prop := ∀ x ∈ us, ∃ t i y, x = V.ref t ∧ SqT K H t [.int i, .str y]
theorem IsTs.keep {K : PySem.W.Frag} {S : Addr → Prop} {H H' : Hp} {us : List V} (h : IsTs K H us) (k : Keep S H H') : IsTs K H' us := fun x hx => by
  obtain ⟨t, i, y, e, s⟩ := h x hx
  exact ⟨t, i, y, e, sqT_keep k s⟩
theorem IsTs.app {K : PySem.W.Frag} {H : Hp} {us vs : List V} (h : IsTs K H us) (g : IsTs K H vs) : IsTs K H (us ++ vs) := fun x hx => (List.mem_append.mp hx).elim (h x) (g x)
abbrev s_solved : Stmt := top 28
theorem sc_solved : FnScope ["pairs", "lacks", "kinds", "one", "other", "wants", "seen", "filling", "number", "held", "told", "labels", "row", "label"] ["pairs", "lacks"] (defScope s_solved) := ⟨rfl, rfl, rfl, by decide +kernel, rfl, by decide +kernel, by decide +kernel⟩
/-- what solved is handed, what it comes to know -/
structure SolC (B : Bd) (prs : List (Kd × Kd)) (lks : List (Nat × Str)) (kn : Kn) (wt : Kd → Nat) (g : Nat → En) : Prop where
  bk : ∀ k ∈ flatP prs, k.dp < 4 ∧ k.bnd B
  bl : ∀ t l, (t, l) ∈ lks → t < B.N ∧ B.Tk t ∧ l ∈ B.U ∧ B.Lk t l
  bn : (numsL (kindsOf prs lks)).length ≤ 10000
  bm : ∀ m ∈ numsL (kindsOf prs lks), m < B.N
  bp : prs.length ≤ 1000
  bq : lks.length ≤ 1000
  bNU : B.N * B.U.length ≤ 90000
  bN : B.N ≤ 100000
  bU : B.U.length ≤ 1000
  mw : Mws B (fun _ => none) prs kn
  wt : ∀ p ∈ prs, Wt kn none p.1 (wt p.1) ∧ wt p.1 ≤ 10000
  st : ∀ m e, kn m = some e → StlE kn 6 e (g m)
def sp_solved (K : PySem.W.Frag) (C CN : Addr) : Sp := fun vs H Q E => ∃ (Lp Ll : Addr) (ps ys : List V) (prs : List (Kd × Kd)) (lks : List (Nat × Str)) (B : Bd) (kn : Kn) (wt : Kd → Nat) (g : Nat → En), vs = [.ref Lp, .ref Ll] ∧ H Lp = some (.lst ps) ∧ H Ll = some (.lst ys) ∧
  IsW K H ps prs ∧ IsLk K H ys lks ∧ SolC B prs lks kn wt g ∧
  ((∀ p ∈ prs, wt p.1 ≤ 200) → ∀ (p df q : Addr) (us : List V) (H' : Hp), Same H H' → H' p = some (.tup [.ref df, .ref q]) → KnAt K B.N H' df (filK (numsL (kindsOf prs lks)) kn g) → H' q = some (.lst us) → ((∀ t, t < B.N → B.Tk t → kn t ≠ none) → us = []) → Q (.ref p) H') ∧
  ((∃ p ∈ prs, 200 < wt p.1) → ∀ H', Same H H' → E (.ref CN) none H')
section
variable {P : Program} {wd : World} {K : PySem.W.Frag} {mg : Str → Option Value} {base : Heap} {C CN : Addr}
theorem ok_solved (D : Dfn K mg "solved" s_solved ["pairs", "lacks"]) (T : Txt K mg) (T' : TW K mg C) (N : TN K mg CN) (c_begun : Cal P wd K mg base CX0 5 "begun" ["kinds", "lacks"] (sp_begun K C)) (c_make_same : Cal P wd K mg base CX0 7 "make_same" ["wants", "one", "other"] (sp_make_same K C))
    (c_weigh : Cal P wd K mg base (L2.CX P wd) 2 "weigh" ["wants", "told", "barred"] (sp_weigh K C CN)) (c_settled : Cal P wd K mg base CX0 14 "settled" ["wants", "told"] (sp_settled K C 6)) (c_settled_row : Cal P wd K mg base CX0 15 "settled_row" ["wants", "row"] (sp_settled_row K C 6)) :
    Cal P wd K mg base (L2.CX P wd) 16 "solved" ["pairs", "lacks"] (sp_solved K C CN) := by
  have S := sc_solved
  refine cal_ofX D S (fun vs H Q E h => ?_) (fun f cdv A outer s H vs Q E hr h => ?_)
  · obtain ⟨Lp, Ll, ps, ys, prs, lks, B, kn, wt, g, rfl, _⟩ := h
    rfl
  obtain ⟨Lp, Ll, ps, ys, prs, lks, B, kn, wt, g, rfl, hLp, hLl, iw, il, sc, q1, q2⟩ := h
  have hu := hu_of hr
  have tk : Takes (cxOf (L2.CX P wd) P wd K mg base ["pairs", "lacks", "kinds", "one", "other", "wants", "seen", "filling", "number", "held", "told", "labels", "row", "label"] "solved" (defScope s_solved) f cdv A outer s H E) (fun cls d _ H' => E cls d H') := takes_of rfl rfl rfl rfl
  refine ⟨_, (pss_cons (ps_setLc (i := 2) (own := [("row", 12), ("label", 13)]) rfl S.nd rfl rfl (sw_true rfl rfl rfl (by decide +kernel)) (pi_list (pv 1)) (blkOk_by (own := [("row", 12), ("label", 13)]) (N := ["pairs", "lacks", "kinds", "one", "other", "wants", "seen", "filling", "number", "held", "told", "labels", "row", "label"]) (sc := defScope s_solved) (by decide +kernel)) (fun _ _ _ _ _ => (pg_tupK (K := K) (n := 2) rfl rfl (pgs_cons (pg_name (i := 12) S.nd rfl (Or.inl rfl)) (pgs_cons (pg_name (i := 13) S.nd rfl (Or.inl rfl)) pgs_nil)))) (fun _ _ _ _ _ => pts_nil) (fun _ _ _ _ _ => (pe_tup (pa_cons pe_str (pa_cons (pv 12) pa_nil)))))
    (pss_cons (ps_for (passes_of rfl) rfl (pi_list (pv 0)) (pg_tup rfl (pgs_cons (pg_name (i := 3) S.nd rfl (Or.inl rfl)) (pgs_cons (pg_name (i := 4) S.nd rfl (Or.inl rfl)) pgs_nil)))
      (pss_one (ps_expr (pe_bm PySem.F.plainAttrs_list PySem.F.slot_list_extend PySem.F.type_list_extend mt_extend (pv 2) (pa_cons (pe_lst (pa_cons (pv 3) (pa_cons (pv 4) pa_nil))) pa_nil)))))
    (pss_cons (ps_asg (pe_cal c_begun (hr.mono (by decide)) pass0 (pa_cons (pv 2) (pa_cons (pv 1) pa_nil))) (pg_tup rfl (pgs_cons (pg_name (i := 5) S.nd rfl (Or.inl rfl)) (pgs_cons (pg_name (i := 6) S.nd rfl (Or.inl rfl)) pgs_nil))))
    (pss_cons (ps_for (passes_of rfl) rfl (pi_list (pv 0)) (pg_tup rfl (pgs_cons (pg_name (i := 3) S.nd rfl (Or.inl rfl)) (pgs_cons (pg_name (i := 4) S.nd rfl (Or.inl rfl)) pgs_nil)))
      (pss_one (ps_expr (pe_cal c_make_same (hr.mono (by decide)) pass0 (pa_cons (pv 5) (pa_cons (pv 3) (pa_cons (pv 4) pa_nil)))))))
    (pss_cons (ps_for (passes_of rfl) rfl (pi_list (pv 0)) (pg_tup rfl (pgs_cons (pg_name (i := 3) S.nd rfl (Or.inl rfl)) (pgs_cons (pg_name (i := 4) S.nd rfl (Or.inl rfl)) pgs_nil)))
      (pss_one (ps_expr (pe_calS c_weigh (hr.mono (by decide)) tk (pa_cons (pv 5) (pa_cons (pv 3) (pa_cons pe_non pa_nil)))))))
    (pss_cons (ps_set (i := 7) S.nd rfl (Or.inl rfl) pe_dnewK)
    (pss_cons (ps_lock (ps_for (passes_of rfl) rfl (pi_keys (pv 6)) (pg_name (i := 8) S.nd rfl (Or.inr rfl))
      (pss_one (ps_if (pt_cmp (pc_din hu (pv 8) (pe_fld (pv 5) rfl)))
        (pss_cons (ps_set (i := 9) S.nd rfl (Or.inl rfl) (pe_dget hu (pe_fld (pv 5) rfl) (pv 8) (fun _ _ => rfl)))
        (pss_one (ps_if (pt_cmpR op_eq (pe_ix ix_tup (pv 9) pe_int (fun _ _ => rfl)) pe_str (nomark _))
          (pss_one (ps_dput hu (pv 7) (pv 8) (pe_cal c_settled_row (hr.mono (by decide)) pass0 (pa_cons (pv 5) (pa_cons (pv 9) pa_nil))) rfl))
          (pss_one (ps_dput hu (pv 7) (pv 8) (pe_cal c_settled (hr.mono (by decide)) pass0 (pa_cons (pv 5) (pa_cons (pv 9) pa_nil))) rfl)))))
        pss_nil))))
    (pss_cons (ps_set (i := 10) S.nd rfl (Or.inl rfl) (pe_lst pa_nil))
    (pss_cons (ps_lock (ps_for (passes_of rfl) rfl (pi_items (pe_fld (pv 5) rfl)) (pg_tup rfl (pgs_cons (pg_name (i := 8) S.nd rfl (Or.inr rfl)) (pgs_cons (pg_name (i := 11) S.nd rfl (Or.inl rfl)) pgs_nil)))
      (pss_one (ps_if (pt_cmp (pc_dnotin hu (pv 8) (pe_fld (pv 5) rfl)))
        (pss_one (ps_expr (pe_bm PySem.F.plainAttrs_list PySem.F.slot_list_extend PySem.F.type_list_extend mt_extend (pv 10) (pa_cons (pe_lock (pe_lc (own := [("label", 13)]) rfl S.nd (pi_keys (pv 11)) (blkOk_by (own := [("label", 13)]) (N := ["pairs", "lacks", "kinds", "one", "other", "wants", "seen", "filling", "number", "held", "told", "labels", "row", "label"]) (sc := defScope s_solved) (by decide +kernel)) (fun _ _ _ _ _ => (pg_name (i := 13) S.nd rfl (Or.inl rfl))) (fun _ _ _ _ _ => pts_nil) (fun _ _ _ _ _ => (pe_tup (pa_cons (pv 8) (pa_cons (pv 13) pa_nil)))))) pa_nil))))
        pss_nil))))
    (pss_one (ps_ret (pe_tup (pa_cons (pv 7) (pa_cons (pe_callB cr_sortedIS rfl T.sorted (by decide +kernel) (pa_cons (pv 10) pa_nil)) pa_nil)))))))))))))), ?_⟩
  refine ⟨_, rfl, Ll, rfl, ⟨_, .of hLl⟩, fun D nD => ?_⟩
  have ly := il.length
  have lw := iw.length
  have bq := sc.bq
  have bp := sc.bp
  refine lc_list (K := K) (a := Ll) (xs := ys) (fun i H' => ∃ us, Same H H' ∧ H' D = some (.lst us) ∧ IsKs K H' us ((lks.take i).map fun e => Kd.rc [] (some e.1)))
    ⟨[], keep_new (S := No) nD |>.toSame, upd_same, .nil⟩ (fun i H' _ ⟨_, s, _⟩ => .of (s _ _ hLl)) ?_ ?_
  · rintro i x H1 hi ⟨us, s1, h1, g1⟩
    obtain ⟨p, r, t, l, rfl, e1, e2, e3⟩ := il.get2 hi
    refine ⟨p, _, rfl, sqT_keep (same_keep s1) e1, rfl, _, _, rfl, _, _, rfl, rfl, rfl, ?_⟩
    refine tyes ⟨_, rfl, (by show 2 ≤ sizeLine; decide), fun p2 n2 => ?_⟩
    refine newG n2 fun H2 s2 h2 => ?_
    have hD := s2 _ _ h1
    have lp := g1.length
    rw [List.length_map, List.length_take] at lp
    refine ⟨us, hD, sz_lt (by omega), ?_⟩
    refine mutG hD rfl fun H3 k3 h3 => ?_
    refine ⟨us ++ [.ref p2], same_over (s1.trans s2) k3 nD, h3, ?_⟩
    rw [take_snoc e3, List.map_append]
    exact ((g1.keep (same_keep s2)).keep k3).app (.cons (isR_rec (sqT_keep k3 (.of h2)) (((e2.keep (same_keep s1)).keep (same_keep s2)).keep k3)) .nil)
  rintro H1 ⟨us0, s1, h1, g1⟩
  rw [ly, List.take_length] at g1
  -- the pairs' kinds
  refine ⟨_, rfl, Lp, rfl, ⟨_, .of (s1 _ _ hLp)⟩, for_list (K := K) (a := Lp) (xs := ps) (fun i σ G => ∃ (x y : Option V) (us : List V), σ = [some (.ref Lp), some (.ref Ll), some (.ref D), x, y, none, none, none, none, none, none, none, none, none] ∧ Same H G ∧ G D = some (.lst us) ∧ IsKs K G us ((lks.map fun e => Kd.rc [] (some e.1)) ++ flatP (prs.take i)))
    ⟨none, none, us0, rfl, s1, h1, by simpa [flatP] using g1⟩ (fun i σ G _ ⟨_, _, _, _, s, _⟩ => .of (s _ _ hLp)) ?_ ?_⟩
  · rintro i x σ G hi ⟨x1, y1, us, rfl, sG, gD, ik⟩
    obtain ⟨p, u, v, a, b, rfl, e1, e2, e3, e4⟩ := iw.get hi
    refine ⟨p, _, rfl, sqT_keep (same_keep sG) e1, rfl, _, _, rfl, _, _, rfl, rfl, ?_⟩
    refine ⟨_, rfl, .inl ⟨rfl, _, .of gD⟩, _, rfl, _, rfl, (by show 2 ≤ sizeLine; decide), fun q0 n0 => ?_⟩
    refine newG n0 fun G2 sG2 h2 => ?_
    have lk := ik.length
    have lf : (flatP (prs.take i)).length ≤ 2 * prs.length := by
      have key : ∀ ws : List (Kd × Kd), (flatP ws).length = 2 * ws.length := by
        intro ws
        induction ws with
        | nil => rfl
        | cons e r ih =>
          obtain ⟨a, b⟩ := e
          simp only [flatP, List.length_cons, ih]
          omega
      rw [key, List.length_take]
      omega
    rw [List.length_append, List.length_map] at lk
    refine ⟨D, q0, _, _, rfl, rfl, sG2 _ _ gD, h2, sz_le (by simp only [List.length_cons, List.length_nil]; omega), ?_⟩
    refine mutG (sG2 _ _ gD) rfl fun G3 kG3 gD3 => ?_
    have kk : Keep (· = D) G G3 := (same_keep sG2).mono (fun _ z => z.elim) |>.tr kG3
    refine ⟨_, _, _, rfl, same_over (sG.trans sG2) kG3 nD, gD3, ?_⟩
    have k3 := (same_keep sG).mono (S' := (· = D)) (fun _ z => z.elim) |>.tr kk
    rw [take_snoc e4, flatP_append, ← List.append_assoc]
    exact (ik.keep kk).app (.cons (e2.keep k3) (.cons (e3.keep k3) .nil))
  rintro σ G ⟨x1, y1, us, rfl, sG, gD, ik⟩
  rw [lw, List.take_length] at ik
  refine ⟨_, rfl, _, rfl, D, Ll, us, ys, kindsOf prs lks, lks, B, rfl, gD, sG _ _ hLl, ik, il.keep (same_keep sG), fun k hk => ?_, sc.bl, sc.bn, sc.bN, sc.bU, fun p w dk dl a Sl G1 s2 gp W ga nw nF naS nak na => ?_⟩
  · rcases List.mem_append.mp hk with hk | hk
    · obtain ⟨⟨t, l⟩, he, rfl⟩ := List.mem_map.mp hk
      obtain ⟨b1, b2, _⟩ := sc.bl t l he
      refine ⟨by show dpF [] + 1 < 4; decide, fun n e => ?_, trivial⟩
      have e : t = n := Option.some.inj e
      rw [← e]
      exact ⟨b1, b2⟩
    · exact sc.bk k hk
  refine ⟨p, _, rfl, .of gp, rfl, _, _, rfl, _, _, rfl, rfl, ?_⟩
  have sH1 := sG.trans s2
  have nb : ∀ {b}, G b = none → H b = none := fun {b} e => sG.free e
  -- make_same
  refine ⟨_, rfl, Lp, rfl, ⟨_, .of (sH1 _ _ hLp)⟩, for_list (K := K) (a := Lp) (xs := ps) (fun i σ G => ∃ (x y : Option V) (Sl : Addr → Prop) (kn1 : Kn), σ = [some (.ref Lp), some (.ref Ll), some (.ref D), x, y, some (.ref w), some (.ref a), none, none, none, none, none, none, none] ∧ Same H G ∧ WA K C B G w dk dl Sl kn1 ∧
      G a = some (.dK (addN [] (numsL (kindsOf prs lks)))) ∧ ¬ Sl a ∧ (∀ b, Ft dk Sl b → H b = none) ∧ Mws B kn1 (prs.drop i) kn)
    ⟨x1, y1, Sl, _, rfl, sH1, W, ga, naS, fun b z => nb (nF b z), sc.mw⟩ (fun i σ G _ ⟨_, _, _, _, _, s, _⟩ => .of (s _ _ hLp)) ?_ ?_⟩
  · clear W ga naS nF
    rintro i x σ G2 hi ⟨x2, y2, Sl, kn1, rfl, sG2, W, ga, naS, nF, mw⟩
    obtain ⟨p, u, v, a1, b1, rfl, e1, e2, e3, e4⟩ := iw.get hi
    obtain ⟨kn2, n, m1, m2, m3⟩ := mw.get e4
    refine ⟨p, _, rfl, sqT_keep (same_keep sG2) e1, rfl, _, _, rfl, _, _, rfl, rfl, ?_⟩
    refine ⟨_, rfl, _, rfl, _, rfl, w, dk, dl, u, v, a1, b1, n, B, Sl, kn1, kn2, rfl, W, e2.keep (same_keep sG2), e3.keep (same_keep sG2), m1, m2, fun Sl2 G3 k3 W3 => ?_⟩
    obtain ⟨s5, n5⟩ := same_w sG2 k3 nF
    have nFa : ¬ Ft dk Sl a := fun z => z.elim nak naS
    exact ⟨_, _, Sl2, kn2, rfl, s5, W3, k3.1.at ga nFa, fun z => (k3.2 a (.inr z)).elim nFa (fun z => (by rw [ga] at z; cases z)), n5, m3⟩
  clear W ga naS nF
  rintro σ G2 ⟨x2, y2, Sl, kn1, rfl, sG2, W, ga, naS, nF, mw⟩
  rw [lw, List.drop_length] at mw
  cases mw
  -- weigh
  refine ⟨_, rfl, Lp, rfl, ⟨_, .of (sG2 _ _ hLp)⟩, for_list (K := K) (a := Lp) (xs := ps) (fun i σ G => ∃ (x y : Option V), σ = [some (.ref Lp), some (.ref Ll), some (.ref D), x, y, some (.ref w), some (.ref a), none, none, none, none, none, none, none] ∧ Same H G ∧ WA K C B G w dk dl Sl kn ∧
      G a = some (.dK (addN [] (numsL (kindsOf prs lks)))) ∧ (∀ p ∈ prs.take i, wt p.1 ≤ 200))
    ⟨x2, y2, rfl, sG2, W, ga, fun p hp => by cases hp⟩ (fun i σ G _ ⟨_, _, _, s, _⟩ => .of (s _ _ hLp)) ?_ ?_⟩
  · clear W ga
    rintro i x σ G3 hi ⟨x3, y3, rfl, sG3, W, ga, hx⟩
    obtain ⟨p, u, v, a1, b1, rfl, e1, e2, e3, e4⟩ := iw.get hi
    obtain ⟨w1, w2⟩ := sc.wt _ (List.mem_of_getElem? e4)
    refine ⟨p, _, rfl, sqT_keep (same_keep sG3) e1, rfl, _, _, rfl, _, _, rfl, rfl, ?_⟩
    refine ⟨_, rfl, _, rfl, w, dk, dl, u, a1, none, wt a1, B, Sl, kn, rfl, W, e2.keep (same_keep sG3), w1, w2, fun h G4 s4 => ?_, fun h G4 s4 => q2 ⟨_, List.mem_of_getElem? e4, h⟩ G4 (sG3.trans s4)⟩
    refine ⟨_, _, rfl, sG3.trans s4, W.same s4, s4 _ _ ga, fun p hp => ?_⟩
    rw [take_snoc e4] at hp
    rcases List.mem_append.mp hp with hp | hp
    · exact hx p hp
    · rw [List.mem_singleton] at hp
      rw [hp]
      exact h
  clear W ga sG2
  rintro σ G3 ⟨x3, y3, rfl, sG3, W, ga, hx⟩
  rw [lw, List.take_length] at hx
  have fin := q1 hx
  clear q1 q2
  -- filling
  intro df ndf
  refine newG ndf fun G4 s4 gdf => ?_
  have sG4 := sG3.trans s4
  have W4 := W.same s4
  have ga4 := s4 _ _ ga
  have ndfH : H df = none := sG3.free ndf
  have naw : a ≠ w := by
    obtain ⟨dx, fs, e, _⟩ := id W.ins
    exact ne_of ga e (by intro z; cases z)
  have nda : df ≠ a := (ne_of_none ga ndf).symm
  have ndw : df ≠ w := by
    obtain ⟨dx, fs, e, _⟩ := id W.ins
    exact (ne_of_none e ndf).symm
  have ndk : df ≠ dk := by
    obtain ⟨kv, e, _⟩ := id W.kn
    exact (ne_of_none e ndf).symm
  have ndS : ¬ Sl df := fun z => by
    obtain ⟨kv, e⟩ := W.lk.2 _ z
    rw [ndf] at e
    cases e
  have naH : H a = none := nb na
  generalize hseen : addN [] (numsL (kindsOf prs lks)) = seen at ga4
  have kseen : ∀ k, k ∈ seen.map (·.1) ↔ ∃ n ∈ numsL (kindsOf prs lks), k = Sum.inl (n : Int) := fun k => by
    rw [← hseen, addN_keys]
    simp
  refine lock_keys (d := a) (kvs := seen) ga4 (fun od i σ G => ∃ (z1 z2 : Option V), σ = [some (.ref Lp), some (.ref Ll), some (.ref D), x3, y3, some (.ref w), some (.ref a), some (.ref df), z1, z2, none, none, none, none] ∧ Same H G ∧ WA K C B G w dk dl Sl kn ∧ G a = some (.frz od (.dK seen)) ∧
      KnAt K B.N G df (filI seen i kn g))
    (fun od R h => ⟨_, rfl, h⟩) (fun od => ⟨none, none, rfl, same_over sG4 (keep_upd ga4 rfl rfl) naH, W4.off (keep_upd ga4 rfl rfl) naw nak naS, upd_same, [], by rw [upd_ne nda]; exact gdf, List.nodup_nil, (fun e h => by cases h), fun m => .inl ⟨by simp [filI], rfl⟩⟩) (fun od i σ G ⟨_, _, _, _, _, h, _⟩ => h) ?_ ?_
  · rintro od i k v σ G5 r bb cc e1 ⟨z1, z2, rfl, sG5, W5, ga5, kd5⟩
    have hk : k ∈ seen.map (·.1) := List.mem_map.mpr ⟨_, List.mem_of_getElem? e1, rfl⟩
    obtain ⟨m, hm, rfl⟩ := (kseen k).mp hk
    obtain ⟨dx, fs, e, f⟩ := id W5.ins
    obtain ⟨kvk, h0, _, _, h3⟩ := id W5.kn
    have hmem : ∀ j : Nat, (Sum.inl (j : Int) : L2.Key) ∈ (seen.take (i + 1)).map (·.1) ↔ ((Sum.inl (j : Int) : L2.Key) ∈ (seen.take i).map (·.1) ∨ j = m) := fun j => by
      rw [take_snoc e1, List.map_append, List.mem_append]
      simp only [List.map_cons, List.map_nil, List.mem_singleton]
      refine ⟨fun h => h.imp id fun h => ?_, fun h => h.imp id fun h => by rw [h]⟩
      have := Sum.inl.inj h
      omega
    have fil_eq : ∀ {j : Nat}, ¬ j = m → filI seen i kn g j = filI seen (i + 1) kn g j := fun {j} hj => by
      have hm' := hmem j
      unfold filI
      by_cases h : (Sum.inl (j : Int) : L2.Key) ∈ (seen.take i).map (·.1)
      · rw [if_pos h, if_pos (hm'.mpr (.inl h))]
      · rw [if_neg h, if_neg (fun z => (hm'.mp z).elim h hj)]
    rcases h3 m with ⟨n1, n2⟩ | ⟨en, u, n1, n2, n3⟩
    · refine ⟨_, rfl, _, rfl, w, C, dx, fs, _, rfl, e, T'.cl, T'.nK, f.known, dk, none, rfl, .inl ⟨kvk, Sum.inl (m : Int), .of h0, rfl, n2.symm⟩, _, rfl, iteF ?_⟩
      refine ⟨_, _, rfl, sG5, W5, ga5, ?_⟩
      have fe : (filI seen (i + 1) kn g) = (filI seen i kn g) := by
        funext j
        by_cases hj : j = m
        · subst hj
          simp [filI, n1]
        · exact (fil_eq hj).symm
      rw [fe]
      exact kd5
    · refine ⟨_, rfl, _, rfl, w, C, dx, fs, _, rfl, e, T'.cl, T'.nK, f.known, dk, some u, rfl, .inl ⟨kvk, Sum.inl (m : Int), .of h0, rfl, n2.symm⟩, _, rfl, iteT ?_⟩
      refine ⟨_, rfl, w, C, dx, fs, _, rfl, e, T'.cl, T'.nK, f.known, _, rfl, dk, u, rfl, .inl ⟨kvk, Sum.inl (m : Int), .of h0, rfl, n2.symm⟩, ?_⟩
      have fe : (Kn.put (filI seen i kn g) m (g m)) = (filI seen (i + 1) kn g) := by
        funext j
        by_cases hj : j = m
        · subst hj
          simp only [Kn.put, filI, n1, if_pos ((hmem j).mpr (.inr rfl))]
          rfl
        · show (if j = m then some (g m) else filI seen i kn g j) = _
          rw [if_neg hj]
          exact fil_eq hj
      have last : ∀ (v' : V) (G6 : Hp) (y : Option V), Same G5 G6 → IsEn K G6 v' (g m) → ∃ H4, DPut G6 df (.int (m : Int)) v' H4 ∧ (∃ (z1 z2 : Option V), [some (V.ref Lp), some (.ref Ll), some (.ref D), x3, y3, some (.ref w), some (.ref a), some (.ref df), some (.int (m : Int)), y, none, none, none, none] = [some (.ref Lp), some (.ref Ll), some (.ref D), x3, y3, some (.ref w), some (.ref a), some (.ref df), z1, z2, none, none, none, none] ∧ Same H H4 ∧ WA K C B H4 w dk dl Sl kn ∧ H4 a = some (.frz od (.dK seen)) ∧
          KnAt K B.N H4 df (filI seen (i + 1) kn g)) := by
        intro v' G6 y s6 ie
        refine knAt_put (kd5.keep (same_keep s6) id) (sc.bm m hm) sc.bN ie fun H4 k4 n4 => ⟨_, _, rfl, same_over (sG5.trans s6) k4 ndfH, (W5.same s6).off k4 ndw ndk ndS, k4.at (s6 _ _ ga5) nda.symm, ?_⟩
        rw [← fe]
        exact n4
      have hst0 := sc.st m en n1
      generalize hg : g m = gm at hst0
      cases hst0 with
      | @kd k d hst =>
        have ik : IsK K G5 u k := n3
        obtain ⟨p, w1, rest, hp, hsq, hne⟩ : ∃ (p : Addr) (w1 : Str) (rest : List V), u = .ref p ∧ SqT K G5 p (.str w1 :: rest) ∧ decide (V.str w1 = V.str "row") = false := by
          cases ik with
          | @num p e => exact ⟨p, _, _, rfl, e, rfl⟩
          | @var p n e => exact ⟨p, _, _, rfl, e, rfl⟩
          | @fn p x y A B e _ _ => exact ⟨p, _, _, rfl, e, rfl⟩
          | @rc p r f vs fs t e _ _ _ => exact ⟨p, _, _, rfl, e, rfl⟩
        subst hp
        refine ⟨_, rfl, p, _, _, _, rfl, rfl, hsq, atI_nat rfl, rfl, _, rfl, ?_⟩
        rw [hne]
        refine iteF ⟨_, rfl, _, rfl, w, dk, dl, .ref p, k, d, B, Sl, kn, rfl, W5, ik, hst, fun v' G6 s6 i6 => ?_⟩
        obtain ⟨H4, d4, q4⟩ := last v' G6 (some (.ref p)) s6 (by rw [hg]; exact i6)
        exact ⟨_, rfl, _, rfl, df, H4, rfl, d4, q4⟩
      | @row fs0 fs' ds t t' j hst =>
        have ir : IsR K G5 u fs0 t := n3
        obtain ⟨p, f', vs', rfl, f1, f2, f3⟩ := id ir
        refine ⟨_, rfl, p, _, _, _, rfl, rfl, f1, atI_nat rfl, rfl, _, rfl, iteT ?_⟩
        refine ⟨_, rfl, _, rfl, w, dk, dl, .ref p, fs0, fs', ds, t, t', j, B, Sl, kn, rfl, W5, ir, hst, fun v' G6 s6 i6 => ?_⟩
        obtain ⟨H4, d4, q4⟩ := last v' G6 (some (.ref p)) s6 (by rw [hg]; exact i6)
        exact ⟨_, rfl, _, rfl, df, H4, rfl, d4, q4⟩
  rintro od σ G5 ⟨z1, z2, rfl, sG5, W5, ga5, kd5⟩
  have kdu : Keep (· = a) G5 (upd G5 a (.dK seen)) := keep_upd ga5 rfl rfl
  have W6 := W5.off kdu naw nak naS
  have sG6 : Same H (upd G5 a (.dK seen)) := same_over sG5 kdu naH
  have fe : filI seen seen.length kn g = filK (numsL (kindsOf prs lks)) kn g := by
    funext j
    unfold filI filK
    rw [List.take_length]
    by_cases h : j ∈ numsL (kindsOf prs lks)
    · rw [if_pos h, if_pos ((kseen _).mpr ⟨j, h, rfl⟩)]
    · rw [if_neg h, if_neg]
      intro z
      obtain ⟨n, hn, e⟩ := (kseen _).mp z
      have := Sum.inl.inj e
      exact h (by have : j = n := by omega
                  rw [this]; exact hn)
  have kd6 := kd5.keep kdu nda
  rw [fe] at kd6
  generalize upd G5 a (.dK seen) = G6 at W6 sG6 kd6
  -- what rows must lack
  refine ⟨(by show 0 ≤ sizeLine; decide), fun q0 nq0 => ?_⟩
  refine newG nq0 fun G7 s7 gq => ?_
  have W7 := W6.same s7
  have sG7 := sG6.trans s7
  have kd7 := kd6.keep (same_keep s7) id
  obtain ⟨dx, fs, ew, fw⟩ := id W7.ins
  obtain ⟨kvk, hk0, _, _, hk3⟩ := id W7.kn
  obtain ⟨⟨kv2, on⟩, hin⟩ := id W7.lk
  obtain ⟨o0, o1, o2, o3, o4⟩ := id on
  have ln2 := on.len
  have nwl : w ≠ dl := fun z => W7.nw (z ▸ o1)
  have nkl : dk ≠ dl := fun z => W7.nk (z ▸ o1)
  have nql : q0 ≠ dl := fun z => by
    obtain ⟨kv, e⟩ := W6.lk.2 dl o1
    rw [z, e] at nq0
    cases nq0
  have nqw : q0 ≠ w := by
    obtain ⟨_, _, e, _⟩ := id W6.ins
    exact (ne_of_none e nq0).symm
  have nqk : q0 ≠ dk := by
    obtain ⟨_, e, _⟩ := id W6.kn
    exact (ne_of_none e nq0).symm
  have nqH : H q0 = none := sG6.free nq0
  have ndfl : df ≠ dl := fun z => ndS (z ▸ o1)
  have nqdf : q0 ≠ df := by
    obtain ⟨_, e, _⟩ := id kd6
    exact (ne_of_none e nq0).symm
  have nqS : ∀ b, Sl b → b ≠ q0 := fun b z e => by
    obtain ⟨kv, e'⟩ := W6.lk.2 b z
    rw [e, nq0] at e'
    cases e'
  let FP : Addr → Prop := fun b => b = dl ∨ b = q0
  refine lock_items (d := dl) (kvs := kv2) o0 (fun od i σ G => ∃ (z3 z4 : Option V) (us : List V), σ = [some (.ref Lp), some (.ref Ll), some (.ref D), x3, y3, some (.ref w), some (.ref a), some (.ref df), z3, z2, some (.ref q0), z4, none, none] ∧ G dl = some (.frz od (.dK kv2)) ∧ G q0 = some (.lst us) ∧ Keep FP G7 G ∧
      IsTs K G us ∧ us.length ≤ i * B.U.length ∧ ((∀ t, t < B.N → B.Tk t → kn t ≠ none) → us = []))
    (fun od R h => ⟨_, rfl, w, C, dx, fs, _, rfl, by rw [upd_ne nwl]; exact ew, T'.cl, T'.nL, fw.lacking, h⟩)
    (fun od => ⟨z1, none, [], rfl, upd_same, by rw [upd_ne nql]; exact gq, keep_upd o0 rfl (.inl rfl), (fun x hx => by cases hx), Nat.zero_le _, fun _ => rfl⟩) (fun od i σ G ⟨_, _, _, _, h, _⟩ => h) ?_ ?_
  · rintro od i k v σ G T2 G2 r bb cc e1 ⟨z3, z4, us, rfl, c1, c2, c3, c4, c5, c6⟩ hT s8 g8
    obtain ⟨t, b, eb, bt, bT, bS, bd, inn⟩ := o4 _ (List.mem_of_getElem? e1)
    cases eb
    refine ⟨T2, _, rfl, .of g8, rfl, _, _, rfl, _, _, rfl, rfl, ?_⟩
    have k8 : Keep FP G7 G2 := c3.trN (same_keep s8)
    have ew2 : G2 w = some (.ins C dx fs) := k8.at ew (by rintro (z | z); exact nwl z; exact nqw z.symm)
    have hk2 : G2 dk = some (.dK kvk) := k8.at hk0 (by rintro (z | z); exact nkl z; exact nqk z.symm)
    obtain ⟨ls, i0, i1, i2⟩ := id inn
    have gb : G2 b = some (.dK ls) := k8.at i0 (by rintro (z | z); exact bd z; exact nqS b bS z)
    have lls : ls.length ≤ B.U.length := by
      obtain ⟨ls', j0, j1⟩ := inn.len
      rw [i0] at j0
      cases j0
      exact j1
    have mul : (i + 1) * B.U.length = i * B.U.length + B.U.length := Nat.succ_mul _ _
    rcases hk3 t with ⟨m1, m2⟩ | ⟨en, u, m1, m2, _⟩
    · have hi2 : i < kv2.length := (List.getElem?_eq_some_iff.mp e1).1
      have mle : (i + 1) * B.U.length ≤ B.N * B.U.length := Nat.mul_le_mul_right _ (by omega)
      have bNU := sc.bNU
      have c2' := s8 _ _ c2
      refine ⟨_, rfl, _, rfl, w, C, dx, fs, _, rfl, ew2, T'.cl, T'.nK, fw.known, dk, none, rfl, .inl ⟨kvk, Sum.inl (t : Int), .of hk2, rfl, m2.symm⟩, _, rfl, iteT ?_⟩
      refine ⟨_, rfl, .inl ⟨rfl, _, .of c2'⟩, ?_⟩
      refine lcl_keys (d := b) (kvs := ls) gb (fun od R h => ⟨_, rfl, h⟩) fun od2 D2 nD2 => ?_
      have kb : Keep (fun c => c = b) G2 (upd G2 b (.frz od2 (.dK ls))) := keep_upd gb rfl rfl
      have nD2' : G2 D2 = none := kb.free nD2 (fun z => by rw [z, upd_same] at nD2; cases nD2)
      have nDb : D2 ≠ b := (ne_of_none gb nD2').symm
      refine ⟨fun j G3 => ∃ acc, G3 b = some (.frz od2 (.dK ls)) ∧ G3 D2 = some (.lst acc) ∧ acc.length ≤ j ∧ IsTs K G3 acc ∧ Keep (fun c => c = b) G2 G3, ⟨[], by rw [upd_ne nDb.symm, upd_same], upd_same, Nat.le_refl _, (fun x hx => by cases hx), kb.trN (keep_new nD2)⟩, fun j G3 ⟨_, h, _⟩ => h, ?_, ?_⟩
      · rintro j k v G3 ej ⟨acc, a1, a2, a3, a4, a5⟩
        obtain ⟨lb, el, _, _⟩ := i2 _ (List.mem_of_getElem? ej)
        have el : k = Sum.inr lb := el
        subst el
        have hj := (List.getElem?_eq_some_iff.mp ej).1
        refine ⟨rfl, tyes ⟨_, rfl, _, rfl, (by show 2 ≤ sizeLine; decide), fun p2 n2 => ?_⟩⟩
        refine newG n2 fun G4 s4 h4 => ?_
        refine ⟨acc, s4 _ _ a2, sz_lt (by have := sc.bU; omega), ?_⟩
        refine mutG (s4 _ _ a2) rfl fun G5 k5 h5 => ?_
        refine ⟨acc ++ [.ref p2], k5.at (s4 _ _ a1) nDb.symm, h5, by rw [List.length_append, List.length_singleton]; omega, ((a4.keep (same_keep s4)).keep k5).app (fun x hx => ?_), (a5.trN (same_keep s4)).trans k5 fun c z => .inr (by rw [z]; exact nD2')⟩
        rw [List.mem_singleton] at hx
        exact ⟨p2, t, lb, hx, sqT_keep k5 (.of h4)⟩
      · rintro G3 ⟨acc, a1, a2, a3, a4, a5⟩
        have ku : Keep (fun c => c = b) G3 (upd G3 b (.dK ls)) := keep_upd a1 rfl rfl
        have sG : Same G2 (upd G3 b (.dK ls)) := fun c o e => by
          by_cases hc : c = b
          · subst hc
            rw [gb] at e
            cases e
            exact upd_same
          · rw [upd_ne hc]
            exact a5.at e hc
        have a2' : (upd G3 b (.dK ls)) D2 = some (.lst acc) := ku.at a2 nDb
        have a4' := a4.keep ku
        generalize upd G3 b (.dK ls) = G4 at sG a2' a4'
        refine ⟨q0, D2, _, _, rfl, rfl, sG _ _ c2', a2', sz_le (by omega), ?_⟩
        refine mutG (sG _ _ c2') rfl fun G5 k5 h5 => ?_
        refine ⟨_, _, us ++ acc, rfl, k5.at (sG _ _ (s8 _ _ c1)) nql.symm, h5, (k8.trN (same_keep sG)).tr (k5.mono fun _ z => .inr z), ((c4.keep (same_keep (s8.trans sG))).keep k5).app (a4'.keep k5), by rw [List.length_append]; omega, fun h => absurd m1 (h t bt bT)⟩
    · refine ⟨_, rfl, _, rfl, w, C, dx, fs, _, rfl, ew2, T'.cl, T'.nK, fw.known, dk, some u, rfl, .inl ⟨kvk, Sum.inl (t : Int), .of hk2, rfl, m2.symm⟩, _, rfl, iteF ?_⟩
      exact ⟨_, _, us, rfl, s8 _ _ c1, s8 _ _ c2, k8, c4.keep (same_keep s8), by omega, c6⟩
  rintro od σ G8 ⟨z3, z4, us, rfl, c1, c2, c3, c4, c5, c6⟩
  have ku : Keep (· = dl) G8 (upd G8 dl (.dK kv2)) := keep_upd c1 rfl rfl
  have k9 : Keep FP G7 (upd G8 dl (.dK kv2)) := c3.tr (ku.mono fun _ z => .inl z)
  have cq : (upd G8 dl (.dK kv2)) q0 = some (.lst us) := ku.at c2 nql
  have c4' := c4.keep ku
  have kd9 := kd7.keep k9 (by rintro (z | z); exact ndfl z; exact nqdf z.symm)
  have dlH : H dl = none := nF dl (.inr o1)
  have s9 : Same H (upd G8 dl (.dK kv2)) := fun b o e => k9.at (sG7 _ _ e) (by rintro (z | z); rw [z, dlH] at e; cases e; rw [z, nqH] at e; cases e)
  generalize upd G8 dl (.dK kv2) = G9 at k9 cq c4' kd9 s9
  refine ⟨_, rfl, _, rfl, q0, us, rfl, .of cq, c4', fun ys q pm nq => ?_⟩
  refine newG nq fun G10 s10 g10 => ?_
  refine ⟨(by show 2 ≤ sizeLine; decide), fun p np => ?_⟩
  refine newG np fun G11 s11 g11 => ?_
  refine fin p df q ys G11 ((s9.trans s10).trans s11) g11 ((kd9.keep (same_keep s10) id).keep (same_keep s11) id) (s11 _ _ g10) fun h => ?_
  rw [c6 h] at pm
  exact List.perm_nil.mp pm
end
end Fw
/-! Fw16: expressions; the finder; open_row, row_with, made_number, made_kind, begun_spot, with_name. -/
namespace Fw
open PySem PySem.Spec PyProof.Rows L2
inductive Ex where
  | num (i : Int)
  | name (x : Str)
  | empty
  | wth (l : Str) (e r : Ex)
  | lam (x : Str) (b : Ex)
  | app (f a : Ex)
inductive IsX (K : PySem.W.Frag) (H : Hp) : V → Ex → Prop
  | num {p : Addr} {i : Int} : SqT K H p [.str "num", .int i] → IsX K H (.ref p) (.num i)
  | name {p : Addr} {x : Str} : SqT K H p [.str "name", .str x] → IsX K H (.ref p) (.name x)
  | empty {p : Addr} : SqT K H p [.str "empty"] → IsX K H (.ref p) .empty
  | wth {p : Addr} {l : Str} {x y : V} {e r : Ex} : SqT K H p [.str "with", .str l, x, y] → IsX K H x e → IsX K H y r → IsX K H (.ref p) (.wth l e r)
  | lam {p : Addr} {x : Str} {y : V} {b : Ex} : SqT K H p [.str "fn", .str x, y] → IsX K H y b → IsX K H (.ref p) (.lam x b)
  | app {p : Addr} {x y : V} {f a : Ex} : SqT K H p [.str "do", x, y] → IsX K H x f → IsX K H y a → IsX K H (.ref p) (.app f a)
theorem IsX.keep {K : PySem.W.Frag} {S : Addr → Prop} {H H' : Hp} (k : Keep S H H') : ∀ {e : Ex} {v : V}, IsX K H v e → IsX K H' v e
  | _, _, .num a => .num (sqT_keep k a)
  | _, _, .name a => .name (sqT_keep k a)
  | _, _, .empty a => .empty (sqT_keep k a)
  | _, _, .wth a b c => .wth (sqT_keep k a) (IsX.keep k b) (IsX.keep k c)
  | _, _, .lam a b => .lam (sqT_keep k a) (IsX.keep k b)
  | _, _, .app a b c => .app (sqT_keep k a) (IsX.keep k b) (IsX.keep k c)
abbrev Nm := Str → Option Nat
def Nm.put (nm : Nm) (x : Str) (n : Nat) : Nm := fun y => if y = x then some n else nm y
abbrev Ask := List (Kd × Kd) × List (Nat × Str)
/-- the number behind an expression's own -/
def nx (nm : Nm) : Ex → Nat → Nat
  | .num _, n => n + 1
  | .name x, n => match nm x with
    | some _ => n + 1
    | none => n + 2
  | .empty, n => n + 1
  | .wth _ e r, n => nx nm r (nx nm e (n + 1)) + 1
  | .lam x b, n => nx (nm.put x (n + 1)) b (n + 2)
  | .app f a, n => nx nm a (nx nm f (n + 1))
def spots (nm : Nm) : Ex → Nat → List Nat
  | .num _, n => [n]
  | .name _, n => [n]
  | .empty, n => [n]
  | .wth _ e r, n => n :: (spots nm e (n + 1) ++ spots nm r (nx nm e (n + 1)))
  | .lam x b, n => n :: spots (nm.put x (n + 1)) b (n + 2)
  | .app f a, n => n :: (spots nm f (n + 1) ++ spots nm a (nx nm f (n + 1)))
/-- 0 told anew -/
def s0 (n : Nat) : Nat → Kd := fun m => if m = 0 then .var n else .var m
/-- what the places want -/
def asks (sk : Kd) (nm : Nm) : Ex → Nat → List Ask
  | .num _, n => [([(.var n, .num)], [])]
  | .name x, n => match nm x with
    | some b => [([(.var n, .var b)], [])]
    | none => [([(.var n, sk.sub (s0 (n + 1)))], [])]
  | .empty, n => [([(.var n, .rc [] none)], [])]
  | .wth l e r, n => ([(.var (nx nm e (n + 1)), .rc [] (some (nx nm r (nx nm e (n + 1))))), (.var n, .rc [(l, .var (n + 1))] (some (nx nm r (nx nm e (n + 1)))))], [(nx nm r (nx nm e (n + 1)), l)]) ::
      (asks sk nm e (n + 1) ++ asks sk nm r (nx nm e (n + 1)))
  | .lam x b, n => ([(.var n, .fn (.var (n + 1)) (.var (n + 2)))], []) :: asks sk (nm.put x (n + 1)) b (n + 2)
  | .app f a, n => ([(.var (n + 1), .fn (.var (nx nm f (n + 1))) (.var n))], []) :: (asks sk nm f (n + 1) ++ asks sk nm a (nx nm f (n + 1)))
/-! ### the finder -/
abbrev FF (fa Ls La : Addr) : Addr → Prop := fun b => b = fa ∨ b = Ls ∨ b = La
abbrev FX (fa Ls La : Addr) (X : Addr → Prop) : Addr → Prop := fun b => FF fa Ls La b ∨ X b
inductive IsAs (K : PySem.W.Frag) (F : Addr → Prop) (H : Hp) : List V → List Ask → Prop
  | nil : IsAs K F H [] []
  | cons {p lp ll : Addr} {ps ys : List V} {prs : List (Kd × Kd)} {lks : List (Nat × Str)} {vs : List V} {as : List Ask} : SqT K H p [.ref lp, .ref ll] → H lp = some (.lst ps) → H ll = some (.lst ys) → ¬ F lp → ¬ F ll → IsW K H ps prs → IsLk K H ys lks → IsAs K F H vs as → IsAs K F H (.ref p :: vs) ((prs, lks) :: as)
section
variable {K : PySem.W.Frag} {F : Addr → Prop} {H H' : Hp}
theorem IsAs.keep (k : Keep F H H') : ∀ {vs : List V} {as : List Ask}, IsAs K F H vs as → IsAs K F H' vs as
  | _, _, .nil => .nil
  | _, _, .cons a b c d e f g h => .cons (sqT_keep k a) (k.at b d) (k.at c e) d e (f.keep k) (g.keep k) (IsAs.keep k h)
theorem IsAs.app : ∀ {vs us : List V} {as bs : List Ask}, IsAs K F H vs as → IsAs K F H us bs → IsAs K F H (vs ++ us) (as ++ bs)
  | _, _, _, _, .nil, h => h
  | _, _, _, _, .cons a b c d e f g h, i => .cons a b c d e f g (IsAs.app h i)
theorem IsAs.length : ∀ {vs : List V} {as : List Ask}, IsAs K F H vs as → vs.length = as.length
  | _, _, .nil => rfl
  | _, _, .cons a b c d e f g h => by simp [IsAs.length h]
theorem IsAs.set {v : V} {a : Ask} (hv : IsAs K F H [v] [a]) : ∀ {vs : List V} {as : List Ask} {i : Nat}, IsAs K F H vs as → IsAs K F H (vs.set i v) (as.set i a)
  | _, _, _, .nil => .nil
  | _, _, 0, .cons a b c d e f g h => by
    cases hv with
    | cons a' b' c' d' e' f' g' h' => exact .cons a' b' c' d' e' f' g' h
  | _, _, i + 1, .cons a b c d e f g h => .cons a b c d e f g (IsAs.set hv h)
theorem IsAs.get : ∀ {vs : List V} {as : List Ask} {i : Nat} {v : V}, IsAs K F H vs as → vs[i]? = some v → ∃ p lp ll ps ys prs lks, v = .ref p ∧ SqT K H p [.ref lp, .ref ll] ∧ H lp = some (.lst ps) ∧ H ll = some (.lst ys) ∧ IsW K H ps prs ∧ IsLk K H ys lks ∧ as[i]? = some (prs, lks)
  | _, _, _, _, .nil, e => by simp at e
  | _, _, 0, _, .cons a b c d e f g h, q => by
    simp at q
    subst q
    exact ⟨_, _, _, _, _, _, _, rfl, a, b, c, f, g, rfl⟩
  | _, _, i + 1, _, .cons a b c d e f g h, q => by
    obtain ⟨p, lp, ll, ps, ys, prs, lks, h1, h2, h3, h4, h5, h6, h7⟩ := IsAs.get h (i := i) (by simpa using q)
    exact ⟨p, lp, ll, ps, ys, prs, lks, h1, h2, h3, h4, h5, h6, by simpa using h7⟩
end
abbrev fIns (dkn Ls La : Addr) (own : Str) (n : Nat) : List (Str × V) := [("known", .ref dkn), ("own", .str own), ("fresh", .int (n : Int)), ("spots", .ref Ls), ("asks", .ref La)]
/-- a finder -/
structure FA (K : PySem.W.Frag) (C : Addr) (H : Hp) (fa dkn Ls La : Addr) (X : Addr → Prop) (own : Str) (n : Nat) (sp : List Nat) (as : List Ask) : Prop where
  ins : ∃ dx, H fa = some (.ins C dx (fIns dkn Ls La own n))
  hsp : ∃ vs, H Ls = some (.lst vs) ∧ IsKs K H vs (sp.map Kd.var)
  has : ∃ vs, H La = some (.lst vs) ∧ IsAs K (FX fa Ls La X) H vs as
  ne : Ls ≠ La
  ll : as.length = sp.length
  hx : ∀ b, X b → ¬ FF fa Ls La b ∧ ∃ o, H b = some o
section
variable {K : PySem.W.Frag} {C : Addr} {H H' : Hp} {fa dkn Ls La : Addr} {X : Addr → Prop} {own : Str} {n m : Nat} {sp : List Nat} {as : List Ask}
theorem FA.nfs (h : FA K C H fa dkn Ls La X own n sp as) : fa ≠ Ls := by
  obtain ⟨dx, e⟩ := h.ins
  obtain ⟨vs, e', _⟩ := h.hsp
  exact ne_of e e' (by intro z; cases z)
theorem FA.nfa (h : FA K C H fa dkn Ls La X own n sp as) : fa ≠ La := by
  obtain ⟨dx, e⟩ := h.ins
  obtain ⟨vs, e', _⟩ := h.has
  exact ne_of e e' (by intro z; cases z)
theorem FA.same (h : FA K C H fa dkn Ls La X own n sp as) (s : Same H H') : FA K C H' fa dkn Ls La X own n sp as := by
  obtain ⟨dx, e⟩ := h.ins
  obtain ⟨vs, e', i⟩ := h.hsp
  obtain ⟨us, e'', j⟩ := h.has
  exact ⟨⟨dx, s _ _ e⟩, ⟨vs, s _ _ e', i.keep (same_keep s)⟩, ⟨us, s _ _ e'', j.keep (Keep.same s)⟩, h.ne, h.ll, fun b z => ⟨(h.hx b z).1, (h.hx b z).2.imp fun o e => s _ _ e⟩⟩
/-- the counter -/
theorem FA.cnt (h : FA K C H fa dkn Ls La X own n sp as) (k : Keep (· = fa) H H') (e : ∃ dx, H' fa = some (.ins C dx (fIns dkn Ls La own m))) : FA K C H' fa dkn Ls La X own m sp as := by
  obtain ⟨vs, e', i⟩ := h.hsp
  obtain ⟨us, e'', j⟩ := h.has
  exact ⟨e, ⟨vs, k.at e' h.nfs.symm, i.keep k⟩, ⟨us, k.at e'' h.nfa.symm, j.keep (k.mono fun _ z => .inl (.inl z))⟩, h.ne, h.ll, fun b z => ⟨(h.hx b z).1, (h.hx b z).2.imp fun o e => k.at e fun y => (h.hx b z).1 (.inl y)⟩⟩
end
structure TF (K : PySem.W.Frag) (mg : Str → Option Value) (C : Addr) : Prop where
  mgF : mg "Finder" = some (.ref C)
  cl : Cls K C
  nK : NoAttr K C "known"
  nO : NoAttr K C "own"
  nF : NoAttr K C "fresh"
  nS : NoAttr K C "spots"
  nA : NoAttr K C "asks"
abbrev s_open_row : Stmt := top 31
abbrev s_row_with : Stmt := top 32
abbrev s_finder : Stmt := inClass (top 33) 0
abbrev s_made_number : Stmt := inClass (top 33) 1
abbrev s_made_kind : Stmt := inClass (top 33) 2
abbrev s_begun_spot : Stmt := inClass (top 33) 3
abbrev s_with_name : Stmt := top 34
theorem sc_open_row : FnScope ["number"] ["number"] (defScope s_open_row) := ⟨rfl, rfl, rfl, by decide +kernel, rfl, by decide +kernel, by decide +kernel⟩
theorem sc_row_with : FnScope ["label", "held", "number"] ["label", "held", "number"] (defScope s_row_with) := ⟨rfl, rfl, rfl, by decide +kernel, rfl, by decide +kernel, by decide +kernel⟩
theorem sc_finder : FnScope ["self", "known", "own"] ["self", "known", "own"] (defScope s_finder) := ⟨rfl, rfl, rfl, by decide +kernel, rfl, by decide +kernel, by decide +kernel⟩
theorem sc_made_number : FnScope ["self"] ["self"] (defScope s_made_number) := ⟨rfl, rfl, rfl, by decide +kernel, rfl, by decide +kernel, by decide +kernel⟩
theorem sc_made_kind : FnScope ["self"] ["self"] (defScope s_made_kind) := ⟨rfl, rfl, rfl, by decide +kernel, rfl, by decide +kernel, by decide +kernel⟩
theorem sc_begun_spot : FnScope ["self"] ["self"] (defScope s_begun_spot) := ⟨rfl, rfl, rfl, by decide +kernel, rfl, by decide +kernel, by decide +kernel⟩
theorem sc_with_name : FnScope ["names", "name", "held", "more"] ["names", "name", "held"] (defScope s_with_name) := ⟨rfl, rfl, rfl, by decide +kernel, rfl, by decide +kernel, by decide +kernel⟩
def sp_open_row (K : PySem.W.Frag) : Sp := fun vs H Q _ => ∃ (t : Nat), vs = [.int (t : Int)] ∧ ∀ v H', Same H H' → IsR K H' v [] (some t) → Q v H'
def sp_row_with (K : PySem.W.Frag) : Sp := fun vs H Q _ => ∃ (l : Str) (v : V) (k : Kd) (t : Nat), vs = [.str l, v, .int (t : Int)] ∧ IsK K H v k ∧ ∀ v' H', Same H H' → IsR K H' v' [(l, k)] (some t) → Q v' H'
def sp_made_number (K : PySem.W.Frag) (C : Addr) : Sp := fun vs H Q _ => ∃ (fa dkn Ls La : Addr) (X : Addr → Prop) (own : Str) (n : Nat) (sp : List Nat) (as : List Ask), vs = [.ref fa] ∧ FA K C H fa dkn Ls La X own n sp as ∧ ∀ H', Keep (· = fa) H H' → FA K C H' fa dkn Ls La X own (n + 1) sp as → Q (.int (n : Int)) H'
def sp_made_kind (K : PySem.W.Frag) (C : Addr) : Sp := fun vs H Q _ => ∃ (fa dkn Ls La : Addr) (X : Addr → Prop) (own : Str) (n : Nat) (sp : List Nat) (as : List Ask), vs = [.ref fa] ∧ FA K C H fa dkn Ls La X own n sp as ∧ ∀ v H', Keep (· = fa) H H' → FA K C H' fa dkn Ls La X own (n + 1) sp as → IsK K H' v (.var n) → Q v H'
def sp_begun_spot (K : PySem.W.Frag) (C : Addr) : Sp := fun vs H Q _ => ∃ (fa dkn Ls La : Addr) (X : Addr → Prop) (own : Str) (n : Nat) (sp : List Nat) (as : List Ask), vs = [.ref fa] ∧ FA K C H fa dkn Ls La X own n sp as ∧ sp.length ≤ 10000 ∧
  ∀ H', Keep (FF fa Ls La) H H' → FA K C H' fa dkn Ls La X own (n + 1) (sp ++ [n]) (as ++ [([], [])]) → Q (.int (sp.length : Int)) H'
/-- names, bound -/
def NmAt (K : PySem.W.Frag) (H : Hp) (d : Addr) (nm : Nm) (m : Nat) : Prop := ∃ kvs : KVs, H d = some (.dK kvs) ∧ kvs.length ≤ m ∧ ∀ l : Str, (nm l = none ∧ valV kvs (Sum.inr l) = none) ∨ ∃ b v, nm l = some b ∧ valV kvs (Sum.inr l) = some v ∧ IsK K H v (.var b)
theorem NmAt.keep {K : PySem.W.Frag} {S : Addr → Prop} {H H' : Hp} {d : Addr} {nm : Nm} {m : Nat} (h : NmAt K H d nm m) (k : Keep S H H') (n : ¬ S d) : NmAt K H' d nm m := by
  obtain ⟨kvs, e, l, f⟩ := h
  refine ⟨kvs, k.at e n, l, fun x => (f x).imp id fun ⟨b, v, h1, h2, h3⟩ => ⟨b, v, h1, h2, h3.keep k⟩⟩
def sp_with_name (K : PySem.W.Frag) : Sp := fun vs H Q _ => ∃ (d : Addr) (x : Str) (v : V) (nm : Nm) (m b : Nat), vs = [.ref d, .str x, v] ∧ NmAt K H d nm m ∧ m ≤ 100 ∧ IsK K H v (.var b) ∧ ∀ p H', Same H H' → H p = none → NmAt K H' p (nm.put x b) (m + 1) → Q (.ref p) H'
section
variable {P : Program} {wd : World} {K : PySem.W.Frag} {mg : Str → Option Value} {base : Heap} {C CN : Addr}
theorem ok_open_row (D : Dfn K mg "open_row" s_open_row ["number"]) : Cal P wd K mg base CX0 1 "open_row" ["number"] (sp_open_row K) := by
  have S := sc_open_row
  refine cal_of D S (fun vs H Q E h => ?_) (fun f cdv A outer s H vs Q E hr h => ?_)
  · obtain ⟨t, rfl, _⟩ := h
    rfl
  obtain ⟨t, rfl, q⟩ := h
  refine ⟨_, (pss_one (ps_ret (pe_tup (pa_cons pe_str (pa_cons (pe_tupP pa_nil) (pa_cons (pv 0) pa_nil)))))), ?_⟩
  refine ⟨(by show 0 ≤ sizeLine; decide), fun p o np ho => ?_⟩
  refine newG np fun H1 s1 h1 => ?_
  refine ⟨_, rfl, (by show 3 ≤ sizeLine; decide), newO (Q := fun p H' => Q (.ref p) H') fun p2 H2 n2 s2 h2 => ?_⟩
  exact q _ H2 (s1.trans s2) ⟨p2, p, [], rfl, .of h2, ⟨o, s2 _ _ h1, ho⟩, .nil⟩
theorem ok_row_with (D : Dfn K mg "row_with" s_row_with ["label", "held", "number"]) : Cal P wd K mg base CX0 1 "row_with" ["label", "held", "number"] (sp_row_with K) := by
  have S := sc_row_with
  refine cal_of D S (fun vs H Q E h => ?_) (fun f cdv A outer s H vs Q E hr h => ?_)
  · obtain ⟨l, v, k, t, rfl, _⟩ := h
    rfl
  obtain ⟨l, v, k, t, rfl, hv, q⟩ := h
  refine ⟨_, (pss_one (ps_ret (pe_tup (pa_cons pe_str (pa_cons (pe_tupP (pa_cons (pe_tup (pa_cons (pv 0) (pa_cons (pv 1) pa_nil))) pa_nil)) (pa_cons (pv 2) pa_nil)))))), ?_⟩
  refine ⟨_, rfl, _, rfl, (by show 2 ≤ sizeLine; decide), fun p0 n0 => ?_⟩
  refine newG n0 fun H0 s0 h0 => ?_
  refine ⟨(by show 1 ≤ sizeLine; decide), fun p o np ho => ?_⟩
  refine newG np fun H1 s1 h1 => ?_
  refine ⟨_, rfl, (by show 3 ≤ sizeLine; decide), newO (Q := fun p H' => Q (.ref p) H') fun p2 H2 n2 s2 h2 => ?_⟩
  exact q _ H2 (s0.trans (s1.trans s2)) ⟨p2, p, [.ref p0], rfl, .of h2, ⟨o, s2 _ _ h1, ho⟩, .cons (.of (s2 _ _ (s1 _ _ h0))) (hv.keep (same_keep (s0.trans (s1.trans s2)))) .nil⟩
theorem ok_made_number (D : Mtd K C "made_number" "Finder.made_number" s_made_number ["self"]) (T : TF K mg C) : CalM P wd K mg base CX0 1 C "made_number" ["self"] (sp_made_number K C) := by
  have S := sc_made_number
  refine calM_of D S (fun vs H Q E h => ?_) (fun f cdv A outer s H vs Q E hr h => ?_)
  · obtain ⟨fa, dkn, Ls, La, X, own, n, sp, as, rfl, _⟩ := h
    rfl
  obtain ⟨fa, dkn, Ls, La, X, own, n, sp, as, rfl, W, q⟩ := h
  refine ⟨_, (pss_cons (ps_fldaug (pv 0) pe_int in_add)
    (pss_one (ps_ret (pe_op op_sub (pe_fld (pv 0) rfl) pe_int)))), ?_⟩
  obtain ⟨dx, e⟩ := W.ins
  refine ⟨_, rfl, fa, C, dx, _, _, rfl, e, T.cl, T.nF, rfl, _, _, rfl, rfl, dx, _, e, (by show 5 < 1000; decide), ?_⟩
  refine mutG e rfl fun H1 k1 g1 => ?_
  have g1' : H1 fa = some (.ins C dx (fIns dkn Ls La own (n + 1))) := g1
  refine ⟨_, rfl, fa, C, dx, _, _, rfl, g1', T.cl, T.nF, rfl, _, _, rfl, rfl, ?_⟩
  have z : (((n + 1 : Nat) : Int) - 1) = (n : Int) := by omega
  show Q (.int (((n + 1 : Nat) : Int) - 1)) H1
  rw [z]
  exact q H1 k1 (W.cnt k1 ⟨dx, g1'⟩)
theorem ok_made_kind (D : Mtd K C "made_kind" "Finder.made_kind" s_made_kind ["self"]) (T : TF K mg C) (c_made_number : CalM P wd K mg base CX0 1 C "made_number" ["self"] (sp_made_number K C)) : CalM P wd K mg base CX0 2 C "made_kind" ["self"] (sp_made_kind K C) := by
  have S := sc_made_kind
  refine calM_of D S (fun vs H Q E h => ?_) (fun f cdv A outer s H vs Q E hr h => ?_)
  · obtain ⟨fa, dkn, Ls, La, X, own, n, sp, as, rfl, _⟩ := h
    rfl
  obtain ⟨fa, dkn, Ls, La, X, own, n, sp, as, rfl, W, q⟩ := h
  refine ⟨_, (pss_one (ps_ret (pe_tup (pa_cons pe_str (pa_cons (pe_met0 (pv 0) T.cl c_made_number hr pass0) pa_nil))))), ?_⟩
  obtain ⟨dx, e⟩ := W.ins
  refine ⟨_, rfl, fa, dx, _, rfl, e, rfl, fa, dkn, Ls, La, X, own, n, sp, as, rfl, W, fun H1 k1 W1 => ?_⟩
  refine ⟨(by show 2 ≤ sizeLine; decide), newO (Q := fun p H' => Q (.ref p) H') fun p2 H2 n2 s2 h2 => ?_⟩
  exact q _ H2 (k1.trN (same_keep s2)) (W1.same s2) (.var (.of h2))
theorem ok_begun_spot (D : Mtd K C "begun_spot" "Finder.begun_spot" s_begun_spot ["self"]) (T0 : Txt K mg) (T : TF K mg C) (c_made_kind : CalM P wd K mg base CX0 2 C "made_kind" ["self"] (sp_made_kind K C)) : CalM P wd K mg base CX0 3 C "begun_spot" ["self"] (sp_begun_spot K C) := by
  have S := sc_begun_spot
  refine calM_of D S (fun vs H Q E h => ?_) (fun f cdv A outer s H vs Q E hr h => ?_)
  · obtain ⟨fa, dkn, Ls, La, X, own, n, sp, as, rfl, _⟩ := h
    rfl
  obtain ⟨fa, dkn, Ls, La, X, own, n, sp, as, rfl, W, hn, q⟩ := h
  refine ⟨_, (pss_cons (ps_expr (pe_bm PySem.F.plainAttrs_list PySem.F.slot_list_append PySem.F.type_list_append mt_append (pe_fld (pv 0) rfl) (pa_cons (pe_met0 (pv 0) T.cl c_made_kind hr pass0) pa_nil)))
    (pss_cons (ps_expr (pe_bm PySem.F.plainAttrs_list PySem.F.slot_list_append PySem.F.type_list_append mt_append (pe_fld (pv 0) rfl) (pa_cons (pe_tup (pa_cons (pe_lst pa_nil) (pa_cons (pe_lst pa_nil) pa_nil))) pa_nil)))
    (pss_one (ps_ret (pe_op op_sub (pe_callB call_len_seq rfl T0.len PySem.boot_len (pa_cons (pe_fld (pv 0) rfl) pa_nil)) pe_int))))), ?_⟩
  obtain ⟨dx, e⟩ := W.ins
  obtain ⟨vs, es, is⟩ := W.hsp
  obtain ⟨us, ea, ia⟩ := W.has
  refine ⟨_, rfl, fa, C, dx, _, _, rfl, e, T.cl, T.nS, rfl, .inl ⟨rfl, _, .of es⟩, _, rfl, fa, dx, _, rfl, e, rfl, fa, dkn, Ls, La, X, own, n, sp, as, rfl, W, fun v H1 k1 W1 hv => ?_⟩
  have l1 := is.length
  rw [List.length_map] at l1
  have es1 := k1.at es W.nfs.symm
  refine ⟨Ls, vs, v, rfl, rfl, es1, sz_lt (by omega), ?_⟩
  refine mutG es1 rfl fun H2 k2 es2 => ?_
  obtain ⟨dx1, e1⟩ := W1.ins
  have e2 := k2.at e1 W.nfs
  have ea2 : H2 La = some (.lst us) := k2.at (k1.at ea W.nfa.symm) W.ne.symm
  refine ⟨_, rfl, fa, C, dx1, _, _, rfl, e2, T.cl, T.nA, rfl, .inl ⟨rfl, _, .of ea2⟩, (by show 0 ≤ sizeLine; decide), fun a1 n1 => ?_⟩
  refine newG n1 fun H3 s3 h3 => ?_
  refine ⟨(by show 0 ≤ sizeLine; decide), fun a2 n2 => ?_⟩
  refine newG n2 fun H4 s4 h4 => ?_
  refine ⟨(by show 2 ≤ sizeLine; decide), fun a3 n3 => ?_⟩
  refine newG n3 fun H5 s5 h5 => ?_
  have s25 := s3.trans (s4.trans s5)
  have l2 := ia.length
  have l3 := W.ll
  refine ⟨La, us, _, rfl, rfl, s25 _ _ ea2, sz_lt (by omega), ?_⟩
  refine mutG (s25 _ _ ea2) rfl fun H6 k6 ea6 => ?_
  have es6 : H6 Ls = some (.lst (vs ++ [v])) := k6.at (s25 _ _ es2) W.ne
  refine ⟨_, rfl, fa, C, dx1, _, _, rfl, k6.at (s25 _ _ e2) W.nfa, T.cl, T.nS, rfl, Ls, vs ++ [v], rfl, .inl (.of es6), _, _, rfl, rfl, ?_⟩
  have z : (((vs ++ [v]).length : Int) - 1) = (sp.length : Int) := by rw [List.length_append, List.length_singleton]; omega
  show Q (.int (((vs ++ [v]).length : Int) - 1)) H6
  rw [z]
  have K12 : Keep (FF fa Ls La) H H2 := (k1.mono fun _ z => .inl z).tr (k2.mono fun _ z => .inr (.inl z))
  have K6 : Keep (FF fa Ls La) H2 H6 := ((same_keep s25).mono (fun _ z => z.elim)).tr (k6.mono fun _ z => .inr (.inr z))
  have hx2 : ∀ b, X b → ¬ FF fa Ls La b ∧ ∃ o, H2 b = some o := fun b z => ⟨(W.hx b z).1, (W.hx b z).2.imp fun o e => K12.at e (W.hx b z).1⟩
  have nz : ∀ {c : Addr} {G : Hp}, G c = none → (∀ b o, H2 b = some o → G b = some o) → ¬ FX fa Ls La X c := fun {c G} hc s => by
    rintro ((z | z | z) | z)
    · rw [z, s _ _ e2] at hc; cases hc
    · rw [z, s _ _ es2] at hc; cases hc
    · rw [z, s _ _ ea2] at hc; cases hc
    · obtain ⟨o, e⟩ := (hx2 c z).2
      rw [s _ _ e] at hc; cases hc
  have na1 := nz n1 fun b o e => e
  have na2 := nz n2 s3
  have h3' : H6 a1 = some (.lst []) := k6.at (s5 _ _ (s4 _ _ h3)) fun z => na1 (.inl (.inr (.inr z)))
  have h4' : H6 a2 = some (.lst []) := k6.at (s5 _ _ h4) fun z => na2 (.inl (.inr (.inr z)))
  refine q H6 (K12.tr K6) ⟨⟨dx1, k6.at (s25 _ _ e2) W.nfa⟩, ⟨_, es6, ?_⟩, ⟨_, ea6, ?_⟩, W.ne, by rw [List.length_append, List.length_append, W.ll]; rfl, fun b z => ⟨(hx2 b z).1, (hx2 b z).2.imp fun o e => K6.at e (hx2 b z).1⟩⟩
  · rw [List.map_append]
    exact (is.keep (K12.tr K6)).app (.cons ((hv.keep k2).keep K6) .nil)
  · exact (ia.keep ((K12.tr K6).mono fun _ z => .inl z)).app (.cons (sqT_keep k6 (.of h5)) h3' h4' na1 na2 .nil .nil .nil)
theorem ok_with_name (D : Dfn K mg "with_name" s_with_name ["names", "name", "held"]) (T : Txt K mg) : Cal P wd K mg base CX0 1 "with_name" ["names", "name", "held"] (sp_with_name K) := by
  have S := sc_with_name
  refine cal_of D S (fun vs H Q E h => ?_) (fun f cdv A outer s H vs Q E hr h => ?_)
  · obtain ⟨d, x, v, nm, m, b, rfl, _⟩ := h
    rfl
  obtain ⟨d, x, v, nm, m, b, rfl, ⟨kvs, e, l, ff⟩, hm, hv, q⟩ := h
  have hu := hu_of hr
  refine ⟨_, (pss_cons (ps_set (i := 3) S.nd rfl (Or.inl rfl) (pe_callTy (call_dictC) rfl T.dict (by decide +kernel) (pa_cons (pv 0) pa_nil)))
    (pss_cons (ps_dput hu (pv 3) (pv 1) (pv 2) rfl)
    (pss_one (ps_ret (pv 3))))), ?_⟩
  refine ⟨_, rfl, d, kvs, rfl, .of e, fun p np => ?_⟩
  refine newG np fun H1 s1 h1 => ?_
  refine ⟨_, rfl, _, rfl, _, rfl, p, _, rfl, DPut.k (k := Sum.inr x) h1 (sz_lt (by omega)), ?_⟩
  refine mutG h1 rfl fun H2 k2 h2 => ?_
  refine ⟨_, rfl, q p H2 (same_over s1 k2 np) np ⟨_, h2, ?_, fun y => ?_⟩⟩
  · have := length_putK kvs (Sum.inr x) v
    omega
  · rw [valV_put]
    by_cases hy : y = x
    · subst hy
      exact .inr ⟨b, v, if_pos rfl, if_pos rfl, (hv.keep (same_keep s1)).keep k2⟩
    · have ne : ¬ (Sum.inr y : L2.Key) = Sum.inr x := fun z => hy (Sum.inr.inj z)
      rw [if_neg ne]
      have : nm.put x b y = nm y := if_neg hy
      rw [this]
      exact (ff y).imp id fun ⟨b, v, h1, h2, h3⟩ => ⟨b, v, h1, h2, (h3.keep (same_keep s1)).keep k2⟩
end
end Fw
/-! Fw17: anew, wants_of_name, wants_of_record, wants_of_plain, wants_of. -/
namespace Fw
open PySem PySem.Spec PyProof.Rows L2
abbrev s_anew : Stmt := top 35
abbrev s_won : Stmt := top 36
abbrev s_wor : Stmt := top 37
abbrev s_woc : Stmt := top 38
abbrev s_wop : Stmt := top 39
abbrev s_wants_of : Stmt := top 42
theorem sc_anew : FnScope ["finder", "scheme", "tails", "filling", "number", "label"] ["finder", "scheme"] (defScope s_anew) := ⟨rfl, rfl, rfl, by decide +kernel, rfl, by decide +kernel, by decide +kernel⟩
theorem sc_won : FnScope ["finder", "held", "name", "names", "told", "lacks"] ["finder", "held", "name", "names"] (defScope s_won) := ⟨rfl, rfl, rfl, by decide +kernel, rfl, by decide +kernel, by decide +kernel⟩
theorem sc_wor : FnScope ["finder", "held", "told", "inner", "word", "label", "tail", "asked", "lost", "whole"] ["finder", "held", "told", "inner"] (defScope s_wor) := ⟨rfl, rfl, rfl, by decide +kernel, rfl, by decide +kernel, by decide +kernel⟩
theorem sc_wop : FnScope ["held", "told", "inner", "word"] ["held", "told", "inner"] (defScope s_wop) := ⟨rfl, rfl, rfl, by decide +kernel, rfl, by decide +kernel, by decide +kernel⟩
theorem sc_wants_of : FnScope ["finder", "held", "told", "inner"] ["finder", "held", "told", "inner"] (defScope s_wants_of) := ⟨rfl, rfl, rfl, by decide +kernel, rfl, by decide +kernel, by decide +kernel⟩
/-- no tails -/
def B0 : Bd := ⟨1, [], fun _ => False, fun _ _ => False⟩
/-- a scheme that the names of the text may have: one number, 0, no open row -/
structure ScOk (sk : Kd) : Prop where
  ns : addN [] sk.nums = [(Sum.inl 0, .bl true)]
  ln : sk.nums.length ≤ 10000
  dp : sk.dp < 4
  bnd : sk.bnd B0
  cld : sk.cld
/-- the scheme known by a name -/
def KsAt (K : PySem.W.Frag) (S : Addr → Prop) (H : Hp) (dkn : Addr) (x : Str) (sk : Kd) : Prop := ∃ (kvs : KVs) (sc ll : Addr) (u : V), H dkn = some (.dK kvs) ∧ valV kvs (Sum.inr x) = some (.ref sc) ∧ SqT K H sc [u, .ref ll] ∧ IsK K H u sk ∧ H ll = some (.lst []) ∧ ¬ S dkn ∧ ¬ S ll ∧ ScOk sk
theorem KsAt.keep {K : PySem.W.Frag} {S : Addr → Prop} {H H' : Hp} {d : Addr} {x : Str} {sk : Kd} (h : KsAt K S H d x sk) (k : Keep S H H') : KsAt K S H' d x sk := by
  obtain ⟨kvs, sc, ll, u, h1, h2, h3, h4, h5, h6, h7, h8⟩ := h
  exact ⟨kvs, sc, ll, u, k.at h1 h6, h2, sqT_keep k h3, h4.keep k, k.at h5 h7, h6, h7, h8⟩
theorem KsAt.less {K : PySem.W.Frag} {S S' : Addr → Prop} {H : Hp} {d : Addr} {x : Str} {sk : Kd} (h : KsAt K S H d x sk) (k : ∀ b, S' b → S b) : KsAt K S' H d x sk := by
  obtain ⟨kvs, sc, ll, u, h1, h2, h3, h4, h5, h6, h7, h8⟩ := h
  exact ⟨kvs, sc, ll, u, h1, h2, h3, h4, h5, fun z => h6 (k _ z), fun z => h7 (k _ z), h8⟩
/-- an ask, new since H0 -/
def AskAt (K : PySem.W.Frag) (H0 H : Hp) (v : V) (a : Ask) : Prop := ∃ (p lp ll : Addr) (ps ys : List V), v = .ref p ∧ SqT K H p [.ref lp, .ref ll] ∧ H lp = some (.lst ps) ∧ H ll = some (.lst ys) ∧ H0 lp = none ∧ H0 ll = none ∧ IsW K H ps a.1 ∧ IsLk K H ys a.2
theorem IsAs.keepL {K : PySem.W.Frag} {F S : Addr → Prop} {H H' : Hp} (k : Keep S H H') (n : ∀ b xs, H b = some (.lst xs) → ¬ S b) : ∀ {vs : List V} {as : List Ask}, IsAs K F H vs as → IsAs K F H' vs as
  | _, _, .nil => .nil
  | _, _, .cons a b c d e f g h => .cons (sqT_keep k a) (k.at b (n _ _ b)) (k.at c (n _ _ c)) d e (f.keep k) (g.keep k) (IsAs.keepL k n h)
theorem FA.keepL {K : PySem.W.Frag} {C : Addr} {S : Addr → Prop} {H H' : Hp} {fa dkn Ls La : Addr} {X : Addr → Prop} {own : Str} {n : Nat} {sp : List Nat} {as : List Ask} (h : FA K C H fa dkn Ls La X own n sp as) (k : Keep S H H') (n1 : ¬ S fa) (nl : ∀ b xs, H b = some (.lst xs) → ¬ S b) (nx : ∀ b, X b → ¬ S b) : FA K C H' fa dkn Ls La X own n sp as := by
  obtain ⟨dx, e⟩ := h.ins
  obtain ⟨vs, e', i⟩ := h.hsp
  obtain ⟨us, e'', j⟩ := h.has
  exact ⟨⟨dx, k.at e n1⟩, ⟨vs, k.at e' (nl _ _ e'), i.keep k⟩, ⟨us, k.at e'' (nl _ _ e''), j.keepL k nl⟩, h.ne, h.ll, fun b z => ⟨(h.hx b z).1, (h.hx b z).2.imp fun o e => k.at e (nx b z)⟩⟩
def sp_anew (K : PySem.W.Frag) (C : Addr) : Sp := fun vs H Q _ => ∃ (fa dkn Ls La sc ll : Addr) (X : Addr → Prop) (own : Str) (n : Nat) (sp : List Nat) (as : List Ask) (u : V) (sk : Kd), vs = [.ref fa, .ref sc] ∧ FA K C H fa dkn Ls La X own n sp as ∧ SqT K H sc [u, .ref ll] ∧ IsK K H u sk ∧ H ll = some (.lst []) ∧ ScOk sk ∧
  ∀ (p l' : Addr) (v' : V) (H' : Hp), Keep (· = fa) H H' → FA K C H' fa dkn Ls La X own (n + 1) sp as → H' p = some (.tup [v', .ref l']) → IsK K H' v' (sk.sub (s0 n)) → H' l' = some (.lst []) → H l' = none → Q (.ref p) H'
def sp_won (K : PySem.W.Frag) (C : Addr) : Sp := fun vs H Q _ => ∃ (fa dkn Ls La nd : Addr) (X : Addr → Prop) (own x : Str) (n m : Nat) (sp : List Nat) (as : List Ask) (hv : V) (nm : Nm) (j : Nat), vs = [.ref fa, hv, .str x, .ref nd] ∧ FA K C H fa dkn Ls La X own n sp as ∧ IsK K H hv (.var m) ∧ NmAt K H nd nm j ∧
  ((∃ b, nm x = some b ∧ ∀ v' H', Same H H' → AskAt K H H' v' ([(.var m, .var b)], []) → Q v' H') ∨
   (nm x = none ∧ x ≠ own ∧ ∃ sk, KsAt K (FF fa Ls La) H dkn x sk ∧ ∀ v' H', Keep (· = fa) H H' → FA K C H' fa dkn Ls La X own (n + 1) sp as → AskAt K H H' v' ([(.var m, sk.sub (s0 n))], []) → Q v' H'))
def sp_wor (K : PySem.W.Frag) (C : Addr) : Sp := fun vs H Q _ => ∃ (fa dkn Ls La p inn : Addr) (X : Addr → Prop) (own l : Str) (n m e r : Nat) (sp : List Nat) (as : List Ask) (hv x y v0 v1 : V), vs = [.ref fa, hv, .ref p, .ref inn] ∧ FA K C H fa dkn Ls La X own n sp as ∧ IsK K H hv (.var m) ∧ SqT K H p [.str "with", .str l, x, y] ∧
  H inn = some (.lst [v0, v1]) ∧ inn ≠ fa ∧ IsK K H v0 (.var e) ∧ IsK K H v1 (.var r) ∧ ∀ v' H', Keep (· = fa) H H' → FA K C H' fa dkn Ls La X own (n + 1) sp as → AskAt K H H' v' ([(.var r, .rc [] (some n)), (.var m, .rc [(l, .var e)] (some n))], [(n, l)]) → Q v' H'
inductive PlainX (K : PySem.W.Frag) (H : Hp) (p inn : Addr) (m : Nat) : Ask → Prop
  | num {i : Int} : SqT K H p [.str "num", .int i] → PlainX K H p inn m ([(.var m, .num)], [])
  | empty : SqT K H p [.str "empty"] → PlainX K H p inn m ([(.var m, .rc [] none)], [])
  | app {x y v0 v1 : V} {f a : Nat} : SqT K H p [.str "do", x, y] → H inn = some (.lst [v0, v1]) → IsK K H v0 (.var f) → IsK K H v1 (.var a) → PlainX K H p inn m ([(.var f, .fn (.var a) (.var m))], [])
def sp_wop (K : PySem.W.Frag) : Sp := fun vs H Q _ => ∃ (p inn : Addr) (m : Nat) (hv : V) (a : Ask), vs = [hv, .ref p, .ref inn] ∧ IsK K H hv (.var m) ∧ PlainX K H p inn m a ∧ ∀ v' H', Same H H' → AskAt K H H' v' a → Q v' H'
structure TNm (K : PySem.W.Frag) (mg : Str → Option Value) : Prop where
  num : ∃ a, mg "NUM" = some (.ref a) ∧ ∀ H, SqT K H a [.str "num"]
section
variable {P : Program} {wd : World} {K : PySem.W.Frag} {mg : Str → Option Value} {base : Heap} {C CN : Addr}
theorem ok_anew (D : Dfn K mg "anew" s_anew ["finder", "scheme"]) (T0 : Txt K mg) (T : TF K mg C) (c_note_tails : Cal P wd K mg base CX0 4 "note_tails" ["told", "seen"] (sp_note_tails K 4)) (c_numbers : Cal P wd K mg base CX0 5 "numbers" ["told"] (sp_numbers K 4)) (c_filled : Cal P wd K mg base CX0 8 "filled" ["told", "filling"] (sp_filled K 4))
    (c_made_number : CalM P wd K mg base CX0 1 C "made_number" ["self"] (sp_made_number K C)) (c_made_kind : CalM P wd K mg base CX0 2 C "made_kind" ["self"] (sp_made_kind K C)) (c_open_row : Cal P wd K mg base CX0 1 "open_row" ["number"] (sp_open_row K)) : Cal P wd K mg base CX0 9 "anew" ["finder", "scheme"] (sp_anew K C) := by
  have S := sc_anew
  refine cal_of D S (fun vs H Q E h => ?_) (fun f cdv A outer s H vs Q E hr h => ?_)
  · obtain ⟨fa, dkn, Ls, La, sc, ll, X, own, n, sp, as, u, sk, rfl, _⟩ := h
    rfl
  obtain ⟨fa, dkn, Ls, La, sc, ll, X, own, n, sp, as, u, sk, rfl, W, hsc, hu', hll, ok, q⟩ := h
  have hu := hu_of hr
  refine ⟨_, (pss_cons (ps_set (i := 2) S.nd rfl (Or.inl rfl) pe_dnewK)
    (pss_cons (ps_expr (pe_cal c_note_tails (hr.mono (by decide)) pass0 (pa_cons (pe_ix ix_tup (pv 1) pe_int (fun _ _ => rfl)) (pa_cons (pv 2) pa_nil))))
    (pss_cons (ps_set (i := 3) S.nd rfl (Or.inr rfl) pe_dnewK)
    (pss_cons (ps_for PassesOwn.never rfl (pi_list (pe_cal c_numbers (hr.mono (by decide)) pass0 (pa_cons (pe_ix ix_tup (pv 1) pe_int (fun _ _ => rfl)) pa_nil))) (pg_name (i := 4) S.nd rfl (Or.inl rfl))
      (pss_one (ps_if (pt_cmp (pc_din hu (pv 4) (pv 2)))
        (pss_one (ps_dput hu (pv 3) (pv 4) (pe_cal c_open_row (hr.mono (by decide)) pass0 (pa_cons (pe_met0 (pv 0) T.cl c_made_number (hr.mono (by decide)) pass0) pa_nil)) rfl))
        (pss_one (ps_dput hu (pv 3) (pv 4) (pe_met0 (pv 0) T.cl c_made_kind (hr.mono (by decide)) pass0) rfl)))))
    (pss_one (ps_ret (pe_tup (pa_cons (pe_cal c_filled hr pass0 (pa_cons (pe_ix ix_tup (pv 1) pe_int (fun _ _ => rfl)) (pa_cons (pv 3) pa_nil))) (pa_cons (pe_lc (own := [("number", 4), ("label", 5)]) rfl S.nd (pi_list (pe_ix ix_tup (pv 1) pe_int (fun _ _ => rfl))) (blkOk_by (own := [("number", 4), ("label", 5)]) (N := ["finder", "scheme", "tails", "filling", "number", "label"]) (sc := defScope s_anew) (by decide +kernel)) (fun _ _ _ _ _ => (pg_tupK (K := K) (n := 2) rfl rfl (pgs_cons (pg_name (i := 4) S.nd rfl (Or.inl rfl)) (pgs_cons (pg_name (i := 5) S.nd rfl (Or.inl rfl)) pgs_nil)))) (fun _ _ _ _ _ => pts_nil) (fun _ _ _ _ _ => (pe_tup (pa_cons (pe_dget hu (pv 3) (pv 4) (fun _ _ => rfl)) (pa_cons (pv 5) pa_nil))))) pa_nil))))))))), ?_⟩
  intro a na
  refine newG na fun H1 s1 h1 => ?_
  have hsc1 := sqT_keep (same_keep s1) hsc
  refine ⟨_, rfl, sc, _, _, _, rfl, rfl, hsc1, atI_nat rfl, _, rfl, u, a, sk, B0, (· = a), rfl, hu'.keep (same_keep s1), ok.dp, ok.bnd, by decide, by decide, lk_new h1, fun S2 H2 k2 L2' _ => ?_⟩
  have s2 : Same H H2 := fun b o e => k2.1.at (s1 _ _ e) (ne_of_none e na)
  have h2 : H2 a = some (.dK []) := by
    obtain ⟨⟨kvs, o0, _, _, _, o4⟩, _⟩ := L2'
    cases kvs with
    | nil => exact o0
    | cons e r =>
      obtain ⟨t, b, _, _, z, _⟩ := o4 e List.mem_cons_self
      exact z.elim
  intro df ndf
  refine newG ndf fun H3 s3 h3 => ?_
  have s03 := s2.trans s3
  refine ⟨_, rfl, sc, _, _, _, rfl, rfl, sqT_keep (same_keep s03) hsc, atI_nat rfl, u, sk, rfl, hu'.keep (same_keep s03), ok.dp, ok.ln, fun p H4 s4 np h4 => ?_⟩
  rw [ok.ns] at h4
  have h4 : H4 p = some (.lst [.int 0]) := h4
  have s04 := s03.trans s4
  have W4 := W.same s04
  have nda : df ≠ a := (ne_of_none h2 ndf).symm
  have fa4 : ∃ dx, H4 fa = some (.ins C dx (fIns dkn Ls La own n)) := W4.ins
  obtain ⟨dx4, fa4⟩ := fa4
  have naf : a ≠ fa := ne_of (s4 _ _ (s3 _ _ h2)) fa4 (by intro z; cases z)
  have ndff : df ≠ fa := ne_of (s4 _ _ h3) fa4 (by intro z; cases z)
  have npf : p ≠ fa := ne_of h4 fa4 (by intro z; cases z)
  have npd : p ≠ df := ne_of h4 (s4 _ _ h3) (by intro z; cases z)
  have ndfH : H df = none := s2.free ndf
  refine ⟨p, rfl, ⟨_, .of h4⟩, for_list (K := K) (a := p) (xs := [.int 0]) (fun i σ G => (i = 0 ∧ σ = [some (.ref fa), some (.ref sc), some (.ref a), some (.ref df), none, none] ∧ G = H4) ∨
      (i = 1 ∧ ∃ v, σ = [some (.ref fa), some (.ref sc), some (.ref a), some (.ref df), some (.int 0), none] ∧ Keep (fun b => b = fa ∨ b = df) H4 G ∧ FA K C G fa dkn Ls La X own (n + 1) sp as ∧ G df = some (.dK [(Sum.inl 0, v)]) ∧ IsK K G v (.var n)))
    (.inl ⟨rfl, rfl, rfl⟩) (fun i σ G _ h => ?_) ?_ ?_⟩
  · rcases h with ⟨_, _, rfl⟩ | ⟨_, v, _, k, _⟩
    · exact .of h4
    · exact .of (k.at h4 (by rintro (z | z); exact npf z; exact npd z))
  · rintro i x σ G hi (⟨rfl, rfl, rfl⟩ | ⟨rfl, _⟩)
    · have hi : some (V.int 0) = some x := hi
      cases hi
      refine ⟨_, rfl, _, rfl, a, none, rfl, .inl ⟨[], Sum.inl 0, .of (s4 _ _ (s3 _ _ h2)), rfl, rfl⟩, _, rfl, iteF ?_⟩
      refine ⟨_, rfl, fa, dx4, _, rfl, fa4, rfl, fa, dkn, Ls, La, X, own, n, sp, as, rfl, W4, fun v H5 k5 W5 hv => ?_⟩
      have h5 : H5 df = some (.dK []) := k5.at (s4 _ _ h3) ndff
      refine ⟨_, rfl, _, rfl, df, _, rfl, DPut.k (k := Sum.inl 0) h5 (sz_lt (by show 0 ≤ 100000; decide)), ?_⟩
      refine mutG h5 rfl fun H6 k6 h6 => ?_
      refine .inr ⟨rfl, v, rfl, (k5.mono fun _ z => .inl z).tr (k6.mono fun _ z => .inr z), ?_, h6, hv.keep k6⟩
      exact W5.keepL k6 (fun z => ndff z.symm) (fun b xs e z => by rw [z, h5] at e; cases e) fun b z y => by
        obtain ⟨o, e⟩ := (W.hx b z).2
        rw [y, ndfH] at e
        cases e
    · cases hi
  · rintro σ G (⟨h, _⟩ | ⟨_, v, rfl, k, W5, g5, hv⟩)
    · cases h
    have k04 : Keep (fun b => b = fa ∨ b = df) H G := (same_keep s04).mono (fun _ z => z.elim) |>.tr k
    have kfa : Keep (· = fa) H G := fun b o e z => k04 b o e (z.imp id fun n z => z.elim n fun z => by rw [z, ndfH] at e; cases e)
    obtain ⟨dxG, eG⟩ := W5.ins
    have nlf : ll ≠ fa := by
      obtain ⟨dx0, e0⟩ := W.ins
      exact ne_of hll e0 (by intro z; cases z)
    refine ⟨_, rfl, sc, _, _, _, rfl, rfl, sqT_keep k04 hsc, atI_nat rfl, _, rfl, u, df, sk, s0 n, rfl, hu'.keep k04, ok.dp, ok.cld, ⟨_, g5, fun m => ?_⟩, fun v' H6 s6 i6 => ?_⟩
    · by_cases hm : m = 0
      · subst hm
        exact .inl ⟨v, rfl, hv⟩
      · refine .inr ⟨?_, if_neg hm⟩
        cases hq : valV ([(Sum.inl 0, v)] : KVs) (Sum.inl (m : Int)) with
        | none => rfl
        | some w =>
          have hz := valV_mem hq
          rw [List.mem_singleton] at hz
          have := Sum.inl.inj (Prod.mk.inj hz).1
          omega
    · refine ⟨_, rfl, sc, _, _, _, rfl, rfl, sqT_keep (same_keep s6) (sqT_keep k04 hsc), atI_nat rfl, ll, rfl, ⟨_, .of (s6 _ _ (kfa.at hll nlf))⟩, fun D nD => ?_⟩
      refine lc_list (K := K) (a := ll) (xs := []) (fun i H' => Same H6 H' ∧ H' D = some (.lst [])) ⟨keep_new (S := No) nD |>.toSame, upd_same⟩ (fun i H' _ ⟨s, _⟩ => .of (s _ _ (s6 _ _ (kfa.at hll nlf)))) (fun i x H' hi => by cases hi) ?_
      rintro H7 ⟨s7, h7⟩
      refine ⟨(by show 2 ≤ sizeLine; decide), newO (Q := fun p H' => Q (.ref p) H') fun p2 H8 n8 s8 h8 => ?_⟩
      have s68 := s6.trans (s7.trans s8)
      exact q p2 D v' H8 (kfa.trN (same_keep s68)) (W5.same s68) h8 (i6.keep (same_keep (s7.trans s8))) (s8 _ _ h7) (kfa.free (s6.free nD) (fun z => by rw [z, s6 _ _ eG] at nD; cases nD))
theorem ok_won (D : Dfn K mg "wants_of_name" s_won ["finder", "held", "name", "names"]) (T0 : Txt K mg) (T : TF K mg C) (c_anew : Cal P wd K mg base CX0 9 "anew" ["finder", "scheme"] (sp_anew K C)) : Cal P wd K mg base CX0 10 "wants_of_name" ["finder", "held", "name", "names"] (sp_won K C) := by
  have S := sc_won
  refine cal_of D S (fun vs H Q E h => ?_) (fun f cdv A outer s H vs Q E hr h => ?_)
  · obtain ⟨fa, dkn, Ls, La, nd, X, own, x, n, m, sp, as, hv, nm, j, rfl, _⟩ := h
    rfl
  obtain ⟨fa, dkn, Ls, La, nd, X, own, x, n, m, sp, as, hv, nm, j, rfl, W, ihv, hnm, hq⟩ := h
  have hu := hu_of hr
  refine ⟨_, (pss_cons (ps_if (pt_cmp (pc_din hu (pv 2) (pv 3)))
      (pss_one (ps_ret (pe_tup (pa_cons (pe_lst (pa_cons (pe_tup (pa_cons (pv 1) (pa_cons (pe_dget hu (pv 3) (pv 2) (fun _ _ => rfl)) pa_nil))) pa_nil)) (pa_cons (pe_lst pa_nil) pa_nil)))))
      pss_nil)
    (pss_cons (ps_if (pt_cmpR op_eq (pv 2) (pe_fld (pv 0) rfl) (nomark _))
      pss_never
      pss_nil)
    (pss_cons (ps_asg (pe_cal c_anew hr pass0 (pa_cons (pv 0) (pa_cons (pe_dget hu (pe_fld (pv 0) rfl) (pv 2) (fun _ _ => rfl)) pa_nil))) (pg_tup rfl (pgs_cons (pg_name (i := 4) S.nd rfl (Or.inl rfl)) (pgs_cons (pg_name (i := 5) S.nd rfl (Or.inl rfl)) pgs_nil))))
    (pss_one (ps_ret (pe_tup (pa_cons (pe_lst (pa_cons (pe_tup (pa_cons (pv 1) (pa_cons (pv 4) pa_nil))) pa_nil)) (pa_cons (pv 5) pa_nil)))))))), ?_⟩
  obtain ⟨kvs, e, _, ff⟩ := hnm
  rcases hq with ⟨b, hb, q⟩ | ⟨hb, ho, sk, ks, q⟩
  · rcases ff x with ⟨z, _⟩ | ⟨b', v, z, h1, h2⟩
    · rw [hb] at z; cases z
    rw [hb] at z
    cases z
    refine ⟨_, rfl, _, rfl, nd, some v, rfl, .inl ⟨kvs, Sum.inr x, .of e, rfl, h1.symm⟩, _, rfl, iteT ?_⟩
    refine ⟨_, rfl, _, rfl, _, rfl, nd, v, rfl, .inl ⟨kvs, Sum.inr x, .of e, rfl, h1.symm⟩, (by show 2 ≤ sizeLine; decide), fun p1 n1 => ?_⟩
    refine newG n1 fun H1 s1 g1 => ?_
    refine ⟨(by show 1 ≤ sizeLine; decide), fun p2 n2 => ?_⟩
    refine newG n2 fun H2 s2 g2 => ?_
    refine ⟨(by show 0 ≤ sizeLine; decide), fun p3 n3 => ?_⟩
    refine newG n3 fun H3 s3 g3 => ?_
    refine ⟨(by show 2 ≤ sizeLine; decide), newO (Q := fun p H' => Q (.ref p) H') fun p4 H4 n4 s4 g4 => ?_⟩
    have s34 := s3.trans s4
    have s24 := s2.trans s34
    exact q _ H4 (s1.trans s24) ⟨p4, p2, p3, _, _, rfl, .of g4, s34 _ _ g2, s4 _ _ g3, s1.free n2, (s1.trans s2).free n3, .cons (.of (s24 _ _ g1)) (ihv.keep (same_keep (s1.trans s24))) (h2.keep (same_keep (s1.trans s24))) .nil, .nil⟩
  · rcases ff x with ⟨_, h1⟩ | ⟨b', v, z, h1, h2⟩
    case inr => rw [hb] at z; cases z
    obtain ⟨dx, ef⟩ := W.ins
    refine ⟨_, rfl, _, rfl, nd, none, rfl, .inl ⟨kvs, Sum.inr x, .of e, rfl, h1.symm⟩, _, rfl, iteF ?_⟩
    refine ⟨_, rfl, _, rfl, fa, C, dx, _, _, rfl, ef, T.cl, T.nO, rfl, rfl, _, rfl, ?_⟩
    have ne : decide (V.str x = V.str own) = false := decide_eq_false fun z => ho (V.str.inj z)
    rw [ne]
    refine iteF ?_
    obtain ⟨kv2, sc, ll, u, e1, e2, e3, e4, e5, e6, e7, e8⟩ := ks
    refine ⟨_, rfl, _, rfl, fa, C, dx, _, _, rfl, ef, T.cl, T.nK, rfl, _, rfl, dkn, _, rfl, .inl ⟨kv2, Sum.inr x, .of e1, rfl, e2.symm⟩, fa, dkn, Ls, La, sc, ll, X, own, n, sp, as, u, sk, rfl, W, e3, e4, e5, e8, fun p l' v' H1 k1 W1 g1 i1 gl nl => ?_⟩
    refine ⟨p, _, rfl, .of g1, rfl, _, _, rfl, _, _, rfl, rfl, ?_⟩
    refine ⟨_, rfl, _, rfl, (by show 2 ≤ sizeLine; decide), fun p1 n1 => ?_⟩
    refine newG n1 fun H2 s2 g2 => ?_
    refine ⟨(by show 1 ≤ sizeLine; decide), fun p2 n2 => ?_⟩
    refine newG n2 fun H3 s3 g3 => ?_
    refine ⟨_, rfl, (by show 2 ≤ sizeLine; decide), newO (Q := fun p H' => Q (.ref p) H') fun p4 H4 n4 s4 g4 => ?_⟩
    have s34 := s3.trans s4
    have s24 := s2.trans s34
    obtain ⟨dx1, ef1⟩ := W1.ins
    refine q _ H4 (k1.trN (same_keep s24)) (W1.same s24) ⟨p4, p2, l', _, _, rfl, .of g4, s4 _ _ g3, s24 _ _ gl, k1.free (s2.free n2) (fun z => by rw [z, s2 _ _ ef1] at n2; cases n2), nl, .cons (.of (s34 _ _ g2)) ((ihv.keep k1).keep (same_keep s24)) (i1.keep (same_keep s24)) .nil, .nil⟩
theorem ok_wor (D : Dfn K mg "wants_of_record" s_wor ["finder", "held", "told", "inner"]) (T : TF K mg C) (c_made_number : CalM P wd K mg base CX0 1 C "made_number" ["self"] (sp_made_number K C)) (c_open_row : Cal P wd K mg base CX0 1 "open_row" ["number"] (sp_open_row K)) (c_row_with : Cal P wd K mg base CX0 1 "row_with" ["label", "held", "number"] (sp_row_with K)) :
    Cal P wd K mg base CX0 2 "wants_of_record" ["finder", "held", "told", "inner"] (sp_wor K C) := by
  have S := sc_wor
  refine cal_of D S (fun vs H Q E h => ?_) (fun f cdv A outer s H vs Q E hr h => ?_)
  · obtain ⟨fa, dkn, Ls, La, p, inn, X, own, l, n, m, e, r, sp, as, hv, x, y, v0, v1, rfl, _⟩ := h
    rfl
  obtain ⟨fa, dkn, Ls, La, p, inn, X, own, l, n, m, e, r, sp, as, hv, x, y, v0, v1, rfl, W, ihv, hp, hin, nif, i0, i1, q⟩ := h
  have hu := hu_of hr
  refine ⟨_, (pss_cons (ps_par (i := 4) (j := 5) (by rfl) S.nd rfl rfl (by decide) rfl rfl (pa_cons (pe_ix ix_tup (pv 2) pe_int (fun _ _ => rfl)) (pa_cons (pe_ix ix_tup (pv 2) pe_int (fun _ _ => rfl)) pa_nil)) (by rfl))
    (pss_cons (ps_set (i := 6) S.nd rfl (Or.inl rfl) (pe_met0 (pv 0) T.cl c_made_number hr pass0))
    (pss_cons (ps_set (i := 7) S.nd rfl (Or.inl rfl) (pe_ix ix_list (pv 3) (pe_un un_neg pe_int) (fun _ _ => rfl)))
    (pss_cons (ps_if (pt_cmpR op_eq (pv 4) pe_str (nomark _))
      pss_never
      pss_nil)
    (pss_cons (ps_if (pt_cmpR op_eq (pv 4) pe_str (nomark _))
      pss_never
      pss_nil)
    (pss_cons (ps_set (i := 9) S.nd rfl (Or.inl rfl) (pe_tup (pa_cons pe_str (pa_cons (pe_cal c_row_with hr pass0 (pa_cons (pv 5) (pa_cons (pe_ix ix_list (pv 3) pe_int (fun _ _ => rfl)) (pa_cons (pv 6) pa_nil)))) pa_nil))))
    (pss_cons (ps_if (pt_cmpR op_eq (pv 4) pe_str (nomark _))
      (pss_one (ps_ret (pe_tup (pa_cons (pe_lst (pa_cons (pe_tup (pa_cons (pv 7) (pa_cons (pe_tup (pa_cons pe_str (pa_cons (pe_cal c_open_row hr pass0 (pa_cons (pv 6) pa_nil)) pa_nil))) pa_nil))) (pa_cons (pe_tup (pa_cons (pv 1) (pa_cons (pv 9) pa_nil))) pa_nil))) (pa_cons (pe_lst (pa_cons (pe_tup (pa_cons (pe_cal c_open_row hr pass0 (pa_cons (pv 6) pa_nil)) (pa_cons (pv 5) pa_nil))) pa_nil)) pa_nil)))))
      pss_nil)
    pss_never))))))), ?_⟩
  obtain ⟨dx, ef⟩ := W.ins
  refine ⟨_, rfl, p, _, _, _, rfl, rfl, hp, atI_nat rfl, _, rfl, p, _, _, _, rfl, rfl, hp, atI_nat rfl, _, _, rfl, ?_⟩
  refine ⟨_, rfl, fa, dx, _, rfl, ef, rfl, fa, dkn, Ls, La, X, own, n, sp, as, rfl, W, fun H1 k1 W1 => ?_⟩
  have hin1 := k1.at hin nif
  refine ⟨_, rfl, _, rfl, inn, _, _, v1, rfl, rfl, .of hin1, rfl, ?_⟩
  refine ⟨_, rfl, rfl, _, rfl, iteF ?_⟩
  refine ⟨_, rfl, rfl, _, rfl, iteF ?_⟩
  refine ⟨_, rfl, _, rfl, inn, _, _, v0, rfl, rfl, .of hin1, rfl, _, rfl, l, v0, .var e, n, rfl, i0.keep k1, fun rw H2 s2 hrw => ?_⟩
  refine ⟨(by show 2 ≤ sizeLine; decide), fun pw npw => ?_⟩
  refine newG npw fun H3 s3 g3 => ?_
  refine ⟨_, rfl, rfl, _, rfl, iteT ?_⟩
  refine ⟨_, rfl, _, rfl, n, rfl, fun ro H4 s4 hro => ?_⟩
  refine ⟨(by show 2 ≤ sizeLine; decide), fun p5 np5 => ?_⟩
  refine newG np5 fun H5 s5 g5 => ?_
  refine ⟨(by show 2 ≤ sizeLine; decide), fun p6 np6 => ?_⟩
  refine newG np6 fun H6 s6 g6 => ?_
  refine ⟨_, rfl, _, rfl, (by show 2 ≤ sizeLine; decide), fun p7 np7 => ?_⟩
  refine newG np7 fun H7 s7 g7 => ?_
  refine ⟨(by show 2 ≤ sizeLine; decide), fun p8 np8 => ?_⟩
  refine newG np8 fun H8 s8 g8 => ?_
  refine ⟨_, rfl, n, rfl, fun ro2 H9 s9 hro2 => ?_⟩
  refine ⟨_, rfl, (by show 2 ≤ sizeLine; decide), fun p10 np10 => ?_⟩
  refine newG np10 fun H10 s10 g10 => ?_
  refine ⟨(by show 1 ≤ sizeLine; decide), fun p11 np11 => ?_⟩
  refine newG np11 fun H11 s11 g11 => ?_
  refine ⟨(by show 2 ≤ sizeLine; decide), newO (Q := fun p H' => Q (.ref p) H') fun p12 H12 n12 s12 g12 => ?_⟩
  have t11 := s11.trans s12
  have t10 := s10.trans t11
  have t9 := s9.trans t10
  have t8 := s8.trans t9
  have t7 := s7.trans t8
  have t6 := s6.trans t7
  have t5 := s5.trans t6
  have t4 := s4.trans t5
  have t3 := s3.trans t4
  have t2 := s2.trans t3
  have kk := k1.trN (same_keep t2)
  obtain ⟨dx1, ef1⟩ := W1.ins
  have nH : ∀ {c : Addr} {G : Hp}, Same H1 G → G c = none → H c = none := fun {c G} s e => k1.free (s.free e) (fun z => by rw [z, s _ _ ef1] at e; cases e)
  have u7 := (((((s2.trans s3).trans s4).trans s5).trans s6).trans s7)
  have u10 := ((u7.trans s8).trans s9).trans s10
  refine q _ H12 kk (W1.same t2) ⟨p12, p8, p11, _, _, rfl, .of g12, t9 _ _ g8, s12 _ _ g11, nH u7 np8, nH u10 np11, ?_, ?_⟩
  · exact .cons (.of (t7 _ _ g6)) (i1.keep kk) (isR_rec (.of (t6 _ _ g5)) (hro.keep (same_keep t5))) (.cons (.of (t8 _ _ g7)) (ihv.keep kk) (isR_rec (.of (t4 _ _ g3)) (hrw.keep (same_keep t3))) .nil)
  · exact .cons (.of (t11 _ _ g10)) (hro2.keep (same_keep t10)) .nil
theorem ok_wop (D : Dfn K mg "wants_of_plain" s_wop ["held", "told", "inner"]) (T : TNm K mg) : Cal P wd K mg base CX0 1 "wants_of_plain" ["held", "told", "inner"] (sp_wop K) := by
  have S := sc_wop
  obtain ⟨aN, hN, sN⟩ := T.num
  refine cal_of D S (fun vs H Q E h => ?_) (fun f cdv A outer s H vs Q E hr h => ?_)
  · obtain ⟨p, inn, m, hv, a, rfl, _⟩ := h
    rfl
  obtain ⟨p, inn, m, hv, a, rfl, ihv, px, q⟩ := h
  have hu := hu_of hr
  refine ⟨_, (pss_cons (ps_set (i := 3) S.nd rfl (Or.inl rfl) (pe_ix ix_tup (pv 1) pe_int (fun _ _ => rfl)))
    (pss_cons (ps_if (pt_cmpR op_eq (pv 3) pe_str (nomark _))
      (pss_one (ps_ret (pe_tup (pa_cons (pe_lst (pa_cons (pe_tup (pa_cons (pv 0) (pa_cons (pe_glob (v := V.ref aN) rfl hN rfl) pa_nil))) pa_nil)) (pa_cons (pe_lst pa_nil) pa_nil)))))
      pss_nil)
    (pss_cons (ps_if (pt_cmpR op_eq (pv 3) pe_str (nomark _))
      (pss_one (ps_ret (pe_tup (pa_cons (pe_lst (pa_cons (pe_tup (pa_cons (pv 0) (pa_cons (pe_tup (pa_cons pe_str (pa_cons (pe_tup (pa_cons pe_str (pa_cons (pe_tupP pa_nil) (pa_cons pe_non pa_nil)))) pa_nil))) pa_nil))) pa_nil)) (pa_cons (pe_lst pa_nil) pa_nil)))))
      pss_nil)
    (pss_cons (ps_if (pt_cmpR op_eq (pv 3) pe_str (nomark _))
      (pss_one (ps_ret (pe_tup (pa_cons (pe_lst (pa_cons (pe_tup (pa_cons (pe_ix ix_list (pv 2) pe_int (fun _ _ => rfl)) (pa_cons (pe_tup (pa_cons pe_str (pa_cons (pe_ix ix_list (pv 2) pe_int (fun _ _ => rfl)) (pa_cons (pv 0) pa_nil)))) pa_nil))) pa_nil)) (pa_cons (pe_lst pa_nil) pa_nil)))))
      pss_nil)
    pss_never)))), ?_⟩
  cases px with
  | @num i e =>
    refine ⟨_, rfl, p, _, _, _, rfl, rfl, e, atI_nat rfl, ?_⟩
    refine ⟨_, rfl, rfl, _, rfl, iteT ?_⟩
    refine ⟨_, rfl, (by show 2 ≤ sizeLine; decide), fun p1 n1 => ?_⟩
    refine newG n1 fun H1 s1 g1 => ?_
    refine ⟨(by show 1 ≤ sizeLine; decide), fun p2 n2 => ?_⟩
    refine newG n2 fun H2 s2 g2 => ?_
    refine ⟨(by show 0 ≤ sizeLine; decide), fun p3 n3 => ?_⟩
    refine newG n3 fun H3 s3 g3 => ?_
    refine ⟨(by show 2 ≤ sizeLine; decide), newO (Q := fun p H' => Q (.ref p) H') fun p4 H4 n4 s4 g4 => ?_⟩
    have s34 := s3.trans s4
    have s24 := s2.trans s34
    exact q _ H4 (s1.trans s24) ⟨p4, p2, p3, _, _, rfl, .of g4, s34 _ _ g2, s4 _ _ g3, s1.free n2, (s1.trans s2).free n3, .cons (.of (s24 _ _ g1)) (ihv.keep (same_keep (s1.trans s24))) (.num (sN H4)) .nil, .nil⟩
  | empty e =>
    refine ⟨_, rfl, p, _, _, _, rfl, rfl, e, atI_nat rfl, ?_⟩
    refine ⟨_, rfl, rfl, _, rfl, iteF ?_⟩
    refine ⟨_, rfl, rfl, _, rfl, iteT ?_⟩
    refine ⟨_, rfl, (by show 0 ≤ sizeLine; decide), fun p0 o n0 ho => ?_⟩
    refine newG n0 fun H0 s0 g0 => ?_
    refine ⟨(by show 3 ≤ sizeLine; decide), fun p5 n5 => ?_⟩
    refine newG n5 fun H5 s5 g5 => ?_
    refine ⟨(by show 2 ≤ sizeLine; decide), fun p6 n6 => ?_⟩
    refine newG n6 fun H6 s6 g6 => ?_
    refine ⟨(by show 2 ≤ sizeLine; decide), fun p1 n1 => ?_⟩
    refine newG n1 fun H1 s1 g1 => ?_
    refine ⟨(by show 1 ≤ sizeLine; decide), fun p2 n2 => ?_⟩
    refine newG n2 fun H2 s2 g2 => ?_
    refine ⟨(by show 0 ≤ sizeLine; decide), fun p3 n3 => ?_⟩
    refine newG n3 fun H3 s3 g3 => ?_
    refine ⟨(by show 2 ≤ sizeLine; decide), newO (Q := fun p H' => Q (.ref p) H') fun p4 H4 n4 s4 g4 => ?_⟩
    have s34 := s3.trans s4
    have s24 := s2.trans s34
    have s14 := s1.trans s24
    have s64 := s6.trans s14
    have s06 := (s0.trans s5).trans s6
    refine q _ H4 (s06.trans s14) ⟨p4, p2, p3, _, _, rfl, .of g4, s34 _ _ g2, s4 _ _ g3, (s06.trans s1).free n2, ((s06.trans s1).trans s2).free n3, .cons (.of (s24 _ _ g1)) (ihv.keep (same_keep (s06.trans s14))) ?_ .nil, .nil⟩
    exact .rc (t := none) (.of (s14 _ _ g6)) (.of (s64 _ _ g5)) ⟨o, (s5.trans s64) _ _ g0, ho⟩ .nil
  | @app x y v0 v1 f a e hin i0 i1 =>
    refine ⟨_, rfl, p, _, _, _, rfl, rfl, e, atI_nat rfl, ?_⟩
    refine ⟨_, rfl, rfl, _, rfl, iteF ?_⟩
    refine ⟨_, rfl, rfl, _, rfl, iteF ?_⟩
    refine ⟨_, rfl, rfl, _, rfl, iteT ?_⟩
    refine ⟨_, rfl, inn, _, _, v0, rfl, rfl, .of hin, rfl, _, rfl, inn, _, _, v1, rfl, rfl, .of hin, rfl, _, rfl, (by show 3 ≤ sizeLine; decide), fun p0 n0 => ?_⟩
    refine newG n0 fun H0 s0 g0 => ?_
    refine ⟨(by show 2 ≤ sizeLine; decide), fun p1 n1 => ?_⟩
    refine newG n1 fun H1 s1 g1 => ?_
    refine ⟨(by show 1 ≤ sizeLine; decide), fun p2 n2 => ?_⟩
    refine newG n2 fun H2 s2 g2 => ?_
    refine ⟨(by show 0 ≤ sizeLine; decide), fun p3 n3 => ?_⟩
    refine newG n3 fun H3 s3 g3 => ?_
    refine ⟨(by show 2 ≤ sizeLine; decide), newO (Q := fun p H' => Q (.ref p) H') fun p4 H4 n4 s4 g4 => ?_⟩
    have s34 := s3.trans s4
    have s24 := s2.trans s34
    have s14 := s1.trans s24
    have s04 := same_keep (s0.trans s14)
    exact q _ H4 (s0.trans s14) ⟨p4, p2, p3, _, _, rfl, .of g4, s34 _ _ g2, s4 _ _ g3, (s0.trans s1).free n2, ((s0.trans s1).trans s2).free n3, .cons (.of (s24 _ _ g1)) (i0.keep s04) (.fn (.of (s14 _ _ g0)) (i1.keep s04) (ihv.keep s04)) .nil, .nil⟩
/-- an expression's own wants, its inner kinds told -/
inductive OwnX (K : PySem.W.Frag) (H : Hp) (p inn : Addr) (m n : Nat) : Ask → Nat → Prop
  | plain {a : Ask} : PlainX K H p inn m a → OwnX K H p inn m n a n
  | wth {l : Str} {x y v0 v1 : V} {e r : Nat} : SqT K H p [.str "with", .str l, x, y] → H inn = some (.lst [v0, v1]) → IsK K H v0 (.var e) → IsK K H v1 (.var r) → OwnX K H p inn m n ([(.var r, .rc [] (some n)), (.var m, .rc [(l, .var e)] (some n))], [(n, l)]) (n + 1)
def sp_wants_of (K : PySem.W.Frag) (C : Addr) : Sp := fun vs H Q _ => ∃ (fa dkn Ls La p inn : Addr) (X : Addr → Prop) (own : Str) (n n' m : Nat) (sp : List Nat) (as : List Ask) (hv : V) (a : Ask), vs = [.ref fa, hv, .ref p, .ref inn] ∧ FA K C H fa dkn Ls La X own n sp as ∧ IsK K H hv (.var m) ∧ inn ≠ fa ∧ OwnX K H p inn m n a n' ∧
  ∀ v' H', Keep (· = fa) H H' → FA K C H' fa dkn Ls La X own n' sp as → AskAt K H H' v' a → Q v' H'
theorem AskAt.less {H0 H0' H : Hp} {v : V} {a : Ask} (h : AskAt K H0' H v a) (s : Same H0 H0') : AskAt K H0 H v a := by
  obtain ⟨p, lp, ll, ps, ys, h1, h2, h3, h4, h5, h6, h7⟩ := h
  exact ⟨p, lp, ll, ps, ys, h1, h2, h3, h4, s.free h5, s.free h6, h7⟩
theorem OwnX.same {H H' : Hp} {p inn : Addr} {m n n' : Nat} {a : Ask} (h : OwnX K H p inn m n a n') (s : Same H H') : OwnX K H' p inn m n a n' := by
  cases h with
  | plain h =>
    cases h with
    | num e => exact .plain (.num (sqT_keep (same_keep s) e))
    | empty e => exact .plain (.empty (sqT_keep (same_keep s) e))
    | app e f g i => exact .plain (.app (sqT_keep (same_keep s) e) (s _ _ f) (g.keep (same_keep s)) (i.keep (same_keep s)))
  | wth e f g i => exact .wth (sqT_keep (same_keep s) e) (s _ _ f) (g.keep (same_keep s)) (i.keep (same_keep s))
theorem ok_wants_of (D : Dfn K mg "wants_of" s_wants_of ["finder", "held", "told", "inner"]) (c_wor : Cal P wd K mg base CX0 2 "wants_of_record" ["finder", "held", "told", "inner"] (sp_wor K C)) (c_wop : Cal P wd K mg base CX0 1 "wants_of_plain" ["held", "told", "inner"] (sp_wop K)) :
    Cal P wd K mg base CX0 3 "wants_of" ["finder", "held", "told", "inner"] (sp_wants_of K C) := by
  have S := sc_wants_of
  refine cal_of D S (fun vs H Q E h => ?_) (fun f cdv A outer s H vs Q E hr h => ?_)
  · obtain ⟨fa, dkn, Ls, La, p, inn, X, own, n, n', m, sp, as, hv, a, rfl, _⟩ := h
    rfl
  obtain ⟨fa, dkn, Ls, La, p, inn, X, own, n, n', m, sp, as, hv, a, rfl, W, ihv, nif, ox, q⟩ := h
  have hu := hu_of hr
  refine ⟨_, (pss_cons (ps_if (pt_cmpR op_in_seq (pe_ix ix_tup (pv 2) pe_int (fun _ _ => rfl)) (pe_tup (pa_cons pe_str (pa_cons pe_str (pa_cons pe_str (pa_cons pe_str pa_nil))))) (by rfl))
      (pss_one (ps_ret (pe_cal c_wor hr pass0 (pa_cons (pv 0) (pa_cons (pv 1) (pa_cons (pv 2) (pa_cons (pv 3) pa_nil)))))))
      pss_nil)
    (pss_cons (ps_if (pt_cmpR op_in_seq (pe_ix ix_tup (pv 2) pe_int (fun _ _ => rfl)) (pe_tup (pa_cons pe_str (pa_cons pe_str (pa_cons pe_str pa_nil)))) (by rfl))
      pss_never
      pss_nil)
    (pss_one (ps_ret (pe_cal c_wop (hr.mono (by decide)) pass0 (pa_cons (pv 1) (pa_cons (pv 2) (pa_cons (pv 3) pa_nil)))))))), ?_⟩
  have two : (∃ (wd' : Str) (rest : List V), SqT K H p (.str wd' :: rest) ∧ inV (.str wd') [.str "get", .str "with", .str "put", .str "less"] = false ∧ inV (.str wd') [.str "tag", .str "wide", .str "never"] = false ∧ n' = n ∧ ∀ H', Same H H' → PlainX K H' p inn m a) ∨
      ∃ (l : Str) (x y v0 v1 : V) (e r : Nat), SqT K H p [.str "with", .str l, x, y] ∧ H inn = some (.lst [v0, v1]) ∧ IsK K H v0 (.var e) ∧ IsK K H v1 (.var r) ∧ a = ([(.var r, .rc [] (some n)), (.var m, .rc [(l, .var e)] (some n))], [(n, l)]) ∧ n' = n + 1 := by
    cases ox with
    | plain px =>
      cases px with
      | num e => exact .inl ⟨_, _, e, rfl, rfl, rfl, fun H' s => .num (sqT_keep (same_keep s) e)⟩
      | empty e => exact .inl ⟨_, _, e, rfl, rfl, rfl, fun H' s => .empty (sqT_keep (same_keep s) e)⟩
      | app e f g i => exact .inl ⟨_, _, e, rfl, rfl, rfl, fun H' s => .app (sqT_keep (same_keep s) e) (s _ _ f) (g.keep (same_keep s)) (i.keep (same_keep s))⟩
    | wth e f g i => exact .inr ⟨_, _, _, _, _, _, _, e, f, g, i, rfl, rfl⟩
  rcases two with ⟨wd', rest, e, i1, i2, hn, px⟩ | ⟨l, x, y, v0, v1, e', r', e, f, g, i, rfl, rfl⟩
  · refine ⟨_, rfl, p, _, _, _, rfl, rfl, e, atI_nat rfl, (by show 4 ≤ sizeLine; decide), fun p1 n1 => ?_⟩
    refine newG n1 fun H1 s1 g1 => ?_
    refine ⟨p1, _, rfl, .inr (.of g1), rfl, rfl, ?_⟩
    have z1 : (if false = true then !inV (.str wd') [.str "get", .str "with", .str "put", .str "less"] else inV (.str wd') [.str "get", .str "with", .str "put", .str "less"]) = false := i1
    rw [z1]
    refine ⟨_, rfl, iteF ?_⟩
    refine ⟨_, rfl, p, _, _, _, rfl, rfl, sqT_keep (same_keep s1) e, atI_nat rfl, (by show 3 ≤ sizeLine; decide), fun p2 n2 => ?_⟩
    refine newG n2 fun H2 s2 g2 => ?_
    refine ⟨p2, _, rfl, .inr (.of g2), rfl, rfl, ?_⟩
    have z2 : (if false = true then !inV (.str wd') [.str "tag", .str "wide", .str "never"] else inV (.str wd') [.str "tag", .str "wide", .str "never"]) = false := i2
    rw [z2]
    refine ⟨_, rfl, iteF ?_⟩
    have s12 := s1.trans s2
    refine ⟨_, rfl, _, rfl, _, rfl, p, inn, m, hv, a, rfl, ihv.keep (same_keep s12), px H2 s12, fun v' H' s' as' => ?_⟩
    subst hn
    exact q v' H' (Keep.same (s12.trans s')) (W.same (s12.trans s')) (as'.less s12)
  · refine ⟨_, rfl, p, _, _, _, rfl, rfl, e, atI_nat rfl, (by show 4 ≤ sizeLine; decide), fun p1 n1 => ?_⟩
    refine newG n1 fun H1 s1 g1 => ?_
    refine ⟨p1, _, rfl, .inr (.of g1), rfl, rfl, _, rfl, iteT ?_⟩
    have k1 := same_keep s1
    refine ⟨_, rfl, _, rfl, _, rfl, _, rfl, fa, dkn, Ls, La, p, inn, X, own, l, n, m, e', r', sp, as, hv, x, y, v0, v1, rfl, W.same s1, ihv.keep k1, sqT_keep k1 e, s1 _ _ f, nif, g.keep k1, i.keep k1, fun v' H' k' W' as' => ?_⟩
    exact q v' H' ((same_keep s1).mono (fun _ z => z.elim) |>.tr k') W' (as'.less s1)
end
end Fw
/-! Fw18: find. -/
namespace Fw
open PySem PySem.Spec PyProof.Rows L2
def Ex.dp : Ex → Nat
  | .num _ => 0
  | .name _ => 0
  | .empty => 0
  | .wth _ e r => max e.dp r.dp + 1
  | .lam _ b => b.dp + 1
  | .app f a => max f.dp a.dp + 1
/-- each name is bound, or one that is known -/
def WFX (own : Str) (ks : Str → Prop) : Nm → Ex → Prop
  | _, .num _ => True
  | nm, .name x => nm x ≠ none ∨ (x ≠ own ∧ ks x)
  | _, .empty => True
  | nm, .wth _ e r => WFX own ks nm e ∧ WFX own ks nm r
  | nm, .lam x b => ∀ n, WFX own ks (nm.put x n) b
  | nm, .app f a => WFX own ks nm f ∧ WFX own ks nm a
theorem WFX.imp {own : Str} {ks ks' : Str → Prop} (h : ∀ x, ks x → ks' x) : ∀ {e : Ex} {nm : Nm}, WFX own ks nm e → WFX own ks' nm e
  | .num _, _, _ => trivial
  | .name x, _, w => Or.imp id (fun ⟨a, b⟩ => ⟨a, h x b⟩) w
  | .empty, _, _ => trivial
  | .wth _ e r, _, w => ⟨WFX.imp h (e := e) w.1, WFX.imp h (e := r) w.2⟩
  | .lam x b, _, w => fun n => WFX.imp h (e := b) (w n)
  | .app f a, _, w => ⟨WFX.imp h (e := f) w.1, WFX.imp h (e := a) w.2⟩
/-! ### expressions one after the other -/
def nxL (nm : Nm) : List Ex → Nat → Nat
  | [], n => n
  | e :: r, n => nxL nm r (nx nm e n)
def spotsL (nm : Nm) : List Ex → Nat → List Nat
  | [], _ => []
  | e :: r, n => spots nm e n ++ spotsL nm r (nx nm e n)
def asksL (sk : Kd) (nm : Nm) : List Ex → Nat → List Ask
  | [], _ => []
  | e :: r, n => asks sk nm e n ++ asksL sk nm r (nx nm e n)
def headsL (nm : Nm) : List Ex → Nat → List Nat
  | [], _ => []
  | e :: r, n => n :: headsL nm r (nx nm e n)
theorem nxL_app (nm : Nm) : ∀ (a b : List Ex) (n : Nat), nxL nm (a ++ b) n = nxL nm b (nxL nm a n)
  | [], _, _ => rfl
  | e :: r, b, n => nxL_app nm r b (nx nm e n)
theorem spotsL_app (nm : Nm) : ∀ (a b : List Ex) (n : Nat), spotsL nm (a ++ b) n = spotsL nm a n ++ spotsL nm b (nxL nm a n)
  | [], _, _ => rfl
  | e :: r, b, n => by simp [spotsL, nxL, spotsL_app nm r b (nx nm e n)]
theorem asksL_app (sk : Kd) (nm : Nm) : ∀ (a b : List Ex) (n : Nat), asksL sk nm (a ++ b) n = asksL sk nm a n ++ asksL sk nm b (nxL nm a n)
  | [], _, _ => rfl
  | e :: r, b, n => by simp [asksL, nxL, asksL_app sk nm r b (nx nm e n)]
theorem headsL_app (nm : Nm) : ∀ (a b : List Ex) (n : Nat), headsL nm (a ++ b) n = headsL nm a n ++ headsL nm b (nxL nm a n)
  | [], _, _ => rfl
  | e :: r, b, n => by simp [headsL, nxL, headsL_app nm r b (nx nm e n)]
/-- what stands in an expression behind its word -/
inductive IsPs (K : PySem.W.Frag) (H : Hp) : List V → List (Option Ex) → Prop
  | nil : IsPs K H [] []
  | int {i : Int} {vs : List V} {ps : List (Option Ex)} : IsPs K H vs ps → IsPs K H (.int i :: vs) (none :: ps)
  | str {x : Str} {vs : List V} {ps : List (Option Ex)} : IsPs K H vs ps → IsPs K H (.str x :: vs) (none :: ps)
  | ex {v : V} {e : Ex} {vs : List V} {ps : List (Option Ex)} : IsX K H v e → IsPs K H vs ps → IsPs K H (v :: vs) (some e :: ps)
theorem IsPs.get {K : PySem.W.Frag} {H : Hp} : ∀ {vs : List V} {ps : List (Option Ex)} {i : Nat} {x : V}, IsPs K H vs ps → vs[i]? = some x → (ps[i]? = some none ∧ ((∃ j, x = .int j) ∨ ∃ y, x = .str y)) ∨ ∃ e, ps[i]? = some (some e) ∧ IsX K H x e
  | _, _, _, _, .nil, e => by simp at e
  | _, _, 0, _, .int a, e => by
    simp at e
    exact .inl ⟨rfl, .inl ⟨_, e.symm⟩⟩
  | _, _, 0, _, .str a, e => by
    simp at e
    exact .inl ⟨rfl, .inr ⟨_, e.symm⟩⟩
  | _, _, 0, _, .ex a b, e => by
    simp at e
    subst e
    exact .inr ⟨_, rfl, a⟩
  | _, _, i + 1, _, .int a, e => by simpa using a.get (i := i) (by simpa using e)
  | _, _, i + 1, _, .str a, e => by simpa using a.get (i := i) (by simpa using e)
  | _, _, i + 1, _, .ex a b, e => by simpa using b.get (i := i) (by simpa using e)
theorem IsPs.length {K : PySem.W.Frag} {H : Hp} : ∀ {vs : List V} {ps : List (Option Ex)}, IsPs K H vs ps → vs.length = ps.length
  | _, _, .nil => rfl
  | _, _, .int a => by simp [a.length]
  | _, _, .str a => by simp [a.length]
  | _, _, .ex _ a => by simp [a.length]
theorem tyx_sqT {K : PySem.W.Frag} {H : Hp} {a : Addr} {xs : List V} (h : SqT K H a xs) : TyX K H (.ref a) (.type "tuple") := by
  rcases h with (h | ⟨o, h⟩) | ⟨o, its, n, h, c, _⟩
  · exact .base (.tup h)
  · exact .fTuple h
  · exact .kTuple h c
theorem IsX.tup {K : PySem.W.Frag} {H : Hp} {v : V} {e : Ex} (h : IsX K H v e) : TyX K H v (.type "tuple") := by
  cases h with
  | num a => exact tyx_sqT a
  | name a => exact tyx_sqT a
  | empty a => exact tyx_sqT a
  | wth a _ _ => exact tyx_sqT a
  | lam a _ => exact tyx_sqT a
  | app a _ _ => exact tyx_sqT a
theorem ixN_nat {n j : Nat} (h : j < n) : ixN n (j : Int) = some j := by
  unfold ixN
  rw [if_pos (by omega), if_pos (by omega)]; simp
theorem IsAs.chg {K : PySem.W.Frag} {F F' : Addr → Prop} {H : Hp} (k : ∀ lp xs, H lp = some (.lst xs) → ¬ F lp → ¬ F' lp) : ∀ {vs : List V} {as : List Ask}, IsAs K F H vs as → IsAs K F' H vs as
  | _, _, .nil => .nil
  | _, _, .cons a b c d e f g h => .cons a b c (k _ _ b d) (k _ _ c e) f g (IsAs.chg k h)
section
variable {K : PySem.W.Frag} {C : Addr} {H H0 H' : Hp} {fa dkn Ls La : Addr} {X X' : Addr → Prop} {own : Str} {n m i : Nat} {sp : List Nat} {as : List Ask}
theorem FA.less (h : FA K C H fa dkn Ls La X' own n sp as) (k : ∀ b, X b → X' b) : FA K C H fa dkn Ls La X own n sp as := by
  obtain ⟨us, e, j⟩ := h.has
  exact ⟨h.ins, h.hsp, ⟨us, e, j.chg fun lp xs _ n z => n (z.imp id (k _))⟩, h.ne, h.ll, fun b z => h.hx b (k b z)⟩
/-- a new list is watched from now on -/
theorem FA.more {D : Addr} (h : FA K C H0 fa dkn Ls La X own n sp as) (s : Same H0 H) (nD : H0 D = none) (e : ∃ o, H D = some o) : FA K C H fa dkn Ls La (fun b => X b ∨ b = D) own n sp as := by
  have h' := h.same s
  obtain ⟨dx, e1⟩ := h.ins
  obtain ⟨vs, e2, _⟩ := h.hsp
  obtain ⟨us, e3, j⟩ := h.has
  refine ⟨h'.ins, h'.hsp, ⟨us, s _ _ e3, (j.chg fun lp xs q n => ?_).keep (Keep.same s)⟩, h.ne, h.ll, fun b z => z.elim (h'.hx b) fun z => ?_⟩
  · rintro (z | z | z)
    · exact n (.inl z)
    · exact n (.inr z)
    · rw [z, nD] at q; cases q
  · subst z
    refine ⟨?_, e⟩
    rintro (z | z | z)
    · rw [z, e1] at nD; cases nD
    · rw [z, e2] at nD; cases nD
    · rw [z, e3] at nD; cases nD
/-- a watched list changes -/
theorem FA.wat {D : Addr} (h : FA K C H fa dkn Ls La X own n sp as) (hD : X D) (k : Keep (· = D) H H') (e : ∃ o, H' D = some o) : FA K C H' fa dkn Ls La X own n sp as := by
  obtain ⟨dx, e1⟩ := h.ins
  obtain ⟨vs, e2, i⟩ := h.hsp
  obtain ⟨us, e3, j⟩ := h.has
  have nD := (h.hx D hD).1
  refine ⟨⟨dx, k.at e1 fun z => nD (.inl z.symm)⟩, ⟨vs, k.at e2 fun z => nD (.inr (.inl z.symm)), i.keep k⟩, ⟨us, k.at e3 fun z => nD (.inr (.inr z.symm)), j.keep (k.mono fun b (z : b = D) => .inr (by rw [z]; exact hD))⟩, h.ne, h.ll, fun b z => ⟨(h.hx b z).1, ?_⟩⟩
  by_cases hb : b = D
  · rw [hb]; exact e
  · exact (h.hx b z).2.imp fun o e => k.at e hb
/-- asks[i] = v -/
theorem FA.setA {v : V} {a : Ask} {us : List V} (h : FA K C H fa dkn Ls La X own n sp as) (h0 : FA K C H0 fa dkn Ls La X own m sp as) (av : AskAt K H0 H v a) (e : H La = some (.lst us)) (k : Keep (· = La) H H') (e' : H' La = some (.lst (us.set i v))) : FA K C H' fa dkn Ls La X own n sp (as.set i a) := by
  obtain ⟨dx, e1⟩ := h.ins
  obtain ⟨vs, e2, is⟩ := h.hsp
  obtain ⟨us', e3, j⟩ := h.has
  rw [e] at e3
  cases e3
  obtain ⟨p, lp, ll, ps, ys, rfl, b1, b2, b3, b4, b5, b6, b7⟩ := av
  have nz : ∀ c, H0 c = none → ¬ FX fa Ls La X c := fun c hc => by
    obtain ⟨dx0, f1⟩ := h0.ins
    obtain ⟨vs0, f2, _⟩ := h0.hsp
    obtain ⟨us0, f3, _⟩ := h0.has
    rintro ((z | z | z) | z)
    · rw [z, f1] at hc; cases hc
    · rw [z, f2] at hc; cases hc
    · rw [z, f3] at hc; cases hc
    · obtain ⟨o, f4⟩ := (h0.hx c z).2
      rw [f4] at hc; cases hc
  have kF : Keep (FX fa Ls La X) H H' := k.mono fun _ z => .inl (.inr (.inr z))
  have n1 := nz _ b4
  have n2 := nz _ b5
  refine ⟨⟨dx, k.at e1 h.nfa⟩, ⟨vs, k.at e2 h.ne, is.keep k⟩, ⟨_, e', ?_⟩, h.ne, by rw [List.length_set]; exact h.ll, fun b z => ⟨(h.hx b z).1, (h.hx b z).2.imp fun o e => k.at e fun y => (h.hx b z).1 (.inr (.inr y))⟩⟩
  exact IsAs.set (.cons (sqT_keep k b1) (kF.at b2 n1) (kF.at b3 n2) n1 n2 (b6.keep k) (b7.keep k) .nil) (j.keep kF)
end
theorem set_mid {α : Type} (a : List α) (x y : α) (b : List α) : ((a ++ [x]) ++ b).set a.length y = a ++ (y :: b) := by
  rw [List.append_assoc, List.set_append_right _ _ (Nat.le_refl _), Nat.sub_self]
  rfl
abbrev s_find_fn : Stmt := top 40
abbrev s_find : Stmt := top 43
theorem sc_find_fn : FnScope ["finder", "spot", "told", "names", "bound", "inner"] ["finder", "spot", "told", "names"] (defScope s_find_fn) := ⟨rfl, rfl, rfl, by decide +kernel, rfl, by decide +kernel, by decide +kernel⟩
theorem sc_find : FnScope ["finder", "told", "names", "spot", "held", "inner", "part"] ["finder", "told", "names"] (defScope s_find) := ⟨rfl, rfl, rfl, by decide +kernel, rfl, by decide +kernel, by decide +kernel⟩
def sp_find (K : PySem.W.Frag) (C : Addr) (m : Nat) : Sp := fun vs H Q _ => ∃ (fa dkn Ls La nd : Addr) (X : Addr → Prop) (own : Str) (n j : Nat) (sp : List Nat) (as : List Ask) (v : V) (e : Ex) (nm : Nm) (sk : Kd), vs = [.ref fa, v, .ref nd] ∧ FA K C H fa dkn Ls La X own n sp as ∧ IsX K H v e ∧ e.dp < m ∧ NmAt K H nd nm j ∧ j + e.dp ≤ 100 ∧
  WFX own (fun x => KsAt K (FF fa Ls La) H dkn x sk) nm e ∧ sp.length + (spots nm e n).length ≤ 10000 ∧ ∀ v' H', Keep (FF fa Ls La) H H' → FA K C H' fa dkn Ls La X own (nx nm e n) (sp ++ spots nm e n) (as ++ asks sk nm e n) → IsK K H' v' (.var n) → Q v' H'
def sp_find_fn (K : PySem.W.Frag) (C : Addr) (m : Nat) : Sp := fun vs H Q _ => ∃ (fa dkn Ls La nd p : Addr) (X : Addr → Prop) (own x : Str) (n i k j : Nat) (sp : List Nat) (as : List Ask) (y : V) (b : Ex) (nm : Nm) (sk : Kd), vs = [.ref fa, .int (i : Int), .ref p, .ref nd] ∧ FA K C H fa dkn Ls La X own n sp as ∧ SqT K H p [.str "fn", .str x, y] ∧ IsX K H y b ∧ b.dp < m ∧ NmAt K H nd nm j ∧ j + b.dp + 1 ≤ 100 ∧
  sp[i]? = some k ∧ WFX own (fun x => KsAt K (FF fa Ls La) H dkn x sk) (nm.put x n) b ∧ sp.length + (spots (nm.put x n) b (n + 1)).length ≤ 10000 ∧
  ∀ H', Keep (FF fa Ls La) H H' → FA K C H' fa dkn Ls La X own (nx (nm.put x n) b (n + 1)) (sp ++ spots (nm.put x n) b (n + 1)) ((as ++ asks sk (nm.put x n) b (n + 1)).set i ([(.var k, .fn (.var n) (.var (n + 1)))], [])) → Q .non H'
theorem NmAt.nff {K : PySem.W.Frag} {C : Addr} {H : Hp} {fa dkn Ls La nd : Addr} {X : Addr → Prop} {own : Str} {n j : Nat} {sp : List Nat} {as : List Ask} {nm : Nm} (W : FA K C H fa dkn Ls La X own n sp as) (h : NmAt K H nd nm j) : ¬ FF fa Ls La nd := by
  obtain ⟨kvs, e, _⟩ := h
  obtain ⟨dx, e1⟩ := W.ins
  obtain ⟨vs, e2, _⟩ := W.hsp
  obtain ⟨us, e3, _⟩ := W.has
  rintro (z | z | z)
  · rw [z, e1] at e; cases e
  · rw [z, e2] at e; cases e
  · rw [z, e3] at e; cases e
theorem call_isiK2 {X : Cx} {K : PySem.W.Frag} (hK : X.K = K) : CallR X (.builtin "isinstance") (rIsi K) := by
  subst hK
  exact call_isi
section
variable {P : Program} {wd : World} {K : PySem.W.Frag} {mg : Str → Option Value} {base : Heap} {C CN : Addr}
theorem no_find_fn {m : Nat} (D : Dfn K mg "find_fn" s_find_fn ["finder", "spot", "told", "names"]) (T : TF K mg C) (c_made_kind : CalM P wd K mg base CX0 2 C "made_kind" ["self"] (sp_made_kind K C)) (c_with_name : Cal P wd K mg base CX0 1 "with_name" ["names", "name", "held"] (sp_with_name K))
    (c_find : Cal P wd K mg base CX0 (3 * m + 10) "find" ["finder", "told", "names"] (sp_find K C m)) : Cal P wd K mg base CX0 (3 * m + 11) "find_fn" ["finder", "spot", "told", "names"] (sp_find_fn K C m) := by
  have S := sc_find_fn
  refine cal_of D S (fun vs H Q E h => ?_) (fun f cdv A outer s H vs Q E hr h => ?_)
  · obtain ⟨fa, dkn, Ls, La, nd, p, X, own, x, n, i, k, j, sp, as, y, b, nm, sk, rfl, _⟩ := h
    rfl
  obtain ⟨fa, dkn, Ls, La, nd, p, X, own, x, n, i, k, j, sp, as, y, b, nm, sk, rfl, W, hp, hy, hb, hn, hj, hi, wf, hl, q⟩ := h
  refine ⟨_, (pss_cons (ps_set (i := 4) S.nd rfl (Or.inl rfl) (pe_met0 (pv 0) T.cl c_made_kind (hr.mono (by omega)) pass0))
    (pss_cons (ps_set (i := 5) S.nd rfl (Or.inl rfl) (pe_cal c_find hr pass0 (pa_cons (pv 0) (pa_cons (pe_ix ix_tup (pv 2) pe_int (fun _ _ => rfl)) (pa_cons (pe_cal c_with_name (hr.mono (by omega)) pass0 (pa_cons (pv 3) (pa_cons (pe_ix ix_tup (pv 2) pe_int (fun _ _ => rfl)) (pa_cons (pv 4) pa_nil)))) pa_nil)))))
    (pss_one (ps_asg (pe_tup (pa_cons (pe_lst (pa_cons (pe_tup (pa_cons (pe_ix ix_list (pe_fld (pv 0) rfl) (pv 1) (fun _ _ => rfl)) (pa_cons (pe_tup (pa_cons pe_str (pa_cons (pv 4) (pa_cons (pv 5) pa_nil)))) pa_nil))) pa_nil)) (pa_cons (pe_lst pa_nil) pa_nil))) (pg_sub (pe_fld (pv 0) rfl) (pv 1) set_list))))), ?_⟩
  obtain ⟨dx, ef⟩ := W.ins
  have nff := hn.nff W
  refine ⟨_, rfl, fa, dx, _, rfl, ef, rfl, fa, dkn, Ls, La, X, own, n, sp, as, rfl, W, fun v1 H1 k1 W1 hv1 => ?_⟩
  have kF1 : Keep (FF fa Ls La) H H1 := k1.mono fun _ z => .inl z
  refine ⟨_, rfl, _, rfl, p, _, _, _, rfl, rfl, sqT_keep k1 hp, atI_nat rfl, _, rfl, _, rfl, p, _, _, _, rfl, rfl, sqT_keep k1 hp, atI_nat rfl, _, rfl, nd, x, v1, nm, j, n, rfl, hn.keep kF1 nff, by omega, hv1, fun d2 H2 s2 nd2 hn2 => ?_⟩
  have kF2 := kF1.trN (same_keep s2)
  refine ⟨fa, dkn, Ls, La, d2, X, own, n + 1, j + 1, sp, as, y, b, nm.put x n, sk, rfl, W1.same s2, hy.keep kF2, hb, hn2, by omega, wf.imp fun y ks => ks.keep kF2, hl, fun v3 H3 k3 W3 hv3 => ?_⟩
  obtain ⟨dx3, ef3⟩ := W3.ins
  obtain ⟨vs3, es3, is3⟩ := W3.hsp
  obtain ⟨us3, ea3, ia3⟩ := W3.has
  have ils := is3.length
  have hi' := (List.getElem?_eq_some_iff.mp hi).1
  have hi3 : (sp ++ spots (nm.put x n) b (n + 1))[i]? = some k := by rw [List.getElem?_append_left hi']; exact hi
  have hvi : i < vs3.length := by rw [ils, List.length_map, List.length_append]; omega
  obtain ⟨kd, hkd, ikd⟩ := is3.get (List.getElem?_eq_getElem hvi)
  rw [List.getElem?_map, hi3] at hkd
  cases hkd
  refine ⟨_, rfl, fa, C, dx3, _, _, rfl, ef3, T.cl, T.nS, rfl, _, rfl, Ls, vs3, _, _, rfl, rfl, .of es3, atI_nat (List.getElem?_eq_getElem hvi), ?_⟩
  refine ⟨_, rfl, _, rfl, (by show 3 ≤ sizeLine; decide), fun p4 n4 => ?_⟩
  refine newG n4 fun H4 s4 g4 => ?_
  refine ⟨(by show 2 ≤ sizeLine; decide), fun p5 n5 => ?_⟩
  refine newG n5 fun H5 s5 g5 => ?_
  refine ⟨(by show 1 ≤ sizeLine; decide), fun p6 n6 => ?_⟩
  refine newG n6 fun H6 s6 g6 => ?_
  refine ⟨(by show 0 ≤ sizeLine; decide), fun p7 n7 => ?_⟩
  refine newG n7 fun H7 s7 g7 => ?_
  refine ⟨(by show 2 ≤ sizeLine; decide), fun p8 n8 => ?_⟩
  refine newG n8 fun H8 s8 g8 => ?_
  have s78 := s7.trans s8
  have s68 := s6.trans s78
  have s58 := s5.trans s68
  have s38 := s4.trans s58
  have s36 := (s4.trans s5).trans s6
  have W8 := W3.same s38
  have ea8 := s38 _ _ ea3
  have ul : i < us3.length := by rw [ia3.length, W3.ll, List.length_append]; omega
  refine ⟨_, rfl, fa, C, dx3, _, _, rfl, s38 _ _ ef3, T.cl, T.nA, rfl, _, rfl, La, us3, _, i, rfl, rfl, ea8, ixN_nat ul, ?_⟩
  refine mutG ea8 rfl fun H9 k9 e9 => ?_
  have k38 := same_keep s38
  refine q H9 (((kF2.tr k3).trN k38).tr (k9.mono fun _ z => .inr (.inr z))) (W8.setA W3 (a := ([(.var k, .fn (.var n) (.var (n + 1)))], [])) ⟨p8, p6, p7, _, _, rfl, .of g8, s78 _ _ g6, s8 _ _ g7, (s4.trans s5).free n6, s36.free n7, .cons (.of (s68 _ _ g5)) (ikd.keep k38) (.fn (.of (s58 _ _ g4)) ((hv1.keep (same_keep s2)).keep k3 |>.keep k38) (hv3.keep k38)) .nil, .nil⟩ ea8 k9 e9)
theorem no_find {m : Nat} (D : Dfn K mg "find" s_find ["finder", "told", "names"]) (T0 : Txt K mg) (T : TF K mg C) (c_begun_spot : CalM P wd K mg base CX0 3 C "begun_spot" ["self"] (sp_begun_spot K C)) (c_won : Cal P wd K mg base CX0 10 "wants_of_name" ["finder", "held", "name", "names"] (sp_won K C))
    (c_find_fn : Cal P wd K mg base CX0 (3 * m + 11) "find_fn" ["finder", "spot", "told", "names"] (sp_find_fn K C m)) (c_find : Cal P wd K mg base CX0 (3 * m + 10) "find" ["finder", "told", "names"] (sp_find K C m)) (c_wants_of : Cal P wd K mg base CX0 3 "wants_of" ["finder", "held", "told", "inner"] (sp_wants_of K C)) :
    Cal P wd K mg base CX0 (3 * m + 12 + 1) "find" ["finder", "told", "names"] (sp_find K C (m + 1)) := by
  have S := sc_find
  refine cal_of D S (fun vs H Q E h => ?_) (fun f cdv A outer s H vs Q E hr h => ?_)
  · obtain ⟨fa, dkn, Ls, La, nd, X, own, n, j, sp, as, v, e, nm, sk, rfl, _⟩ := h
    rfl
  obtain ⟨fa, dkn, Ls, La, nd, X, own, n, j, sp, as, v, e, nm, sk, rfl, W, hx, hd, hn, hj, wf, hl, q⟩ := h
  refine ⟨_, (pss_cons (ps_set (i := 3) S.nd rfl (Or.inl rfl) (pe_met0 (pv 0) T.cl c_begun_spot (hr.mono (by omega)) pass0))
    (pss_cons (ps_set (i := 4) S.nd rfl (Or.inl rfl) (pe_ix ix_list (pe_fld (pv 0) rfl) (pv 3) (fun _ _ => rfl)))
    (pss_cons (ps_if (pt_cmpR op_eq (pe_ix ix_tup (pv 1) pe_int (fun _ _ => rfl)) pe_str (nomark _))
      (pss_one (ps_asg (pe_cal c_won (hr.mono (by omega)) pass0 (pa_cons (pv 0) (pa_cons (pv 4) (pa_cons (pe_ix ix_tup (pv 1) pe_int (fun _ _ => rfl)) (pa_cons (pv 2) pa_nil))))) (pg_sub (pe_fld (pv 0) rfl) (pv 3) set_list)))
      (pss_one (ps_if (pt_cmpR op_eq (pe_ix ix_tup (pv 1) pe_int (fun _ _ => rfl)) pe_str (nomark _))
        (pss_one (ps_expr (pe_cal c_find_fn (hr.mono (by omega)) pass0 (pa_cons (pv 0) (pa_cons (pv 3) (pa_cons (pv 1) (pa_cons (pv 2) pa_nil)))))))
        (pss_one (ps_if (pt_cmpR op_eq (pe_ix ix_tup (pv 1) pe_int (fun _ _ => rfl)) pe_str (nomark _))
          pss_never
          (pss_cons (ps_setLc (i := 5) (own := [("part", 6)]) rfl S.nd rfl rfl (sw_true rfl rfl rfl (by decide +kernel)) (pi_tup (pe_slice sl_tup (pv 1) (po_some pe_int) po_none)) (blkOk_by (own := [("part", 6)]) (N := ["finder", "told", "names", "spot", "held", "inner", "part"]) (sc := defScope s_find) (by decide +kernel)) (fun _ _ _ _ _ => (pg_name (i := 6) S.nd rfl (Or.inl rfl))) (fun _ _ _ _ _ => (pts_one (pt_val (pe_callB (call_isiK2 (K := K) rfl) rfl T0.isinstance (by decide +kernel) (pa_cons (pv 6) (pa_cons (pe_bltn (v := V.ty "tuple") rfl T0.tuple (by decide +kernel) rfl) pa_nil)))))) (fun _ _ _ _ _ => (pe_cal c_find (hr.mono (by omega)) pass0 (pa_cons (pv 0) (pa_cons (pv 6) (pa_cons (pv 2) pa_nil))))))
          (pss_one (ps_asg (pe_cal c_wants_of (hr.mono (by omega)) pass0 (pa_cons (pv 0) (pa_cons (pv 4) (pa_cons (pv 1) (pa_cons (pv 5) pa_nil))))) (pg_sub (pe_fld (pv 0) rfl) (pv 3) set_list)))))))))
    (pss_one (ps_ret (pv 4)))))), ?_⟩
  obtain ⟨dx, ef⟩ := W.ins
  have nff := hn.nff W
  have l1 : 1 ≤ (spots nm e n).length := by
    cases e <;> simp [spots]
  refine ⟨_, rfl, fa, dx, _, rfl, ef, rfl, fa, dkn, Ls, La, X, own, n, sp, as, rfl, W, by omega, fun H1 k1 W1 => ?_⟩
  obtain ⟨dx1, ef1⟩ := W1.ins
  obtain ⟨vs1, es1, is1⟩ := W1.hsp
  obtain ⟨us1, ea1, ia1⟩ := W1.has
  have ils := is1.length
  rw [List.length_map, List.length_append, List.length_singleton] at ils
  have hvi : sp.length < vs1.length := by omega
  obtain ⟨kd, hkd, ihv⟩ := is1.get (List.getElem?_eq_getElem hvi)
  rw [List.getElem?_map, List.getElem?_append_right (Nat.le_refl _), Nat.sub_self] at hkd
  cases hkd
  generalize hh : vs1[sp.length] = hv at ihv
  refine ⟨_, rfl, fa, C, dx1, _, _, rfl, ef1, T.cl, T.nS, rfl, _, rfl, Ls, vs1, _, hv, rfl, rfl, .of es1, atI_nat (by rw [List.getElem?_eq_getElem hvi, hh]), ?_⟩
  have hx1 := hx.keep k1
  have hn1 := hn.keep k1 nff
  have wf1 := wf.imp fun y ks => KsAt.keep ks k1
  have lls : as.length = sp.length := W.ll
  have iul := ia1.length
  rw [List.length_append, List.length_singleton] at iul
  have hul : sp.length < us1.length := by omega
  have sm : ∀ (a : Ask) (b : List Ask), ((as ++ [([], [])]) ++ b).set sp.length a = as ++ (a :: b) := fun a b => by rw [← lls]; exact set_mid as _ a b
  have sm0 : ∀ (a : Ask), (as ++ [([], [])]).set sp.length a = as ++ [a] := fun a => by
    have := sm a []
    rwa [List.append_nil] at this
  by_cases hnl : (∃ x, e = .name x) ∨ ∃ x b, e = .lam x b
  · rcases hnl with ⟨x, rfl⟩ | ⟨x, b, rfl⟩
    · cases hx1 with
      | @name p _ hp =>
      refine ⟨_, rfl, p, _, _, _, rfl, rfl, hp, atI_nat rfl, rfl, _, rfl, iteT ?_⟩
      refine ⟨_, rfl, _, rfl, _, rfl, p, _, _, _, rfl, rfl, hp, atI_nat rfl, _, rfl, fa, dkn, Ls, La, nd, X, own, x, n + 1, n, sp ++ [n], as ++ [([], [])], hv, nm, j, rfl, W1, ihv, hn1, ?_⟩
      cases hb : nm x with
      | some b =>
        refine .inl ⟨b, rfl, fun v' H2 s2 as2 => ?_⟩
        have W2 := W1.same s2
        obtain ⟨dx2, ef2⟩ := W2.ins
        refine ⟨_, rfl, fa, C, dx2, _, _, rfl, ef2, T.cl, T.nA, rfl, _, rfl, La, us1, _, sp.length, rfl, rfl, s2 _ _ ea1, ixN_nat hul, ?_⟩
        refine mutG (s2 _ _ ea1) rfl fun H3 k3 e3 => ?_
        have k13 : Keep (FF fa Ls La) H1 H3 := (same_keep s2).mono (fun _ z => z.elim) |>.tr (k3.mono fun _ z => .inr (.inr z))
        refine ⟨_, rfl, q hv H3 (k1.tr k13) ?_ (ihv.keep k13)⟩
        have W3 := W2.setA W1 as2 (s2 _ _ ea1) k3 e3
        rw [sm0] at W3
        simpa only [nx, spots, asks, hb] using W3
      | none =>
        have wf1 : nm x ≠ none ∨ (x ≠ own ∧ KsAt K (FF fa Ls La) H1 dkn x sk) := wf1
        rcases wf1 with z | ⟨ho, ks⟩
        · exact absurd hb z
        refine .inr ⟨rfl, ho, sk, ks, fun v' H2 k2 W2 as2 => ?_⟩
        have ea2 : H2 La = some (.lst us1) := k2.at ea1 W1.nfa.symm
        obtain ⟨dx2, ef2⟩ := W2.ins
        refine ⟨_, rfl, fa, C, dx2, _, _, rfl, ef2, T.cl, T.nA, rfl, _, rfl, La, us1, _, sp.length, rfl, rfl, ea2, ixN_nat hul, ?_⟩
        refine mutG ea2 rfl fun H3 k3 e3 => ?_
        have k13 : Keep (FF fa Ls La) H1 H3 := (k2.mono fun _ z => .inl z).tr (k3.mono fun _ z => .inr (.inr z))
        refine ⟨_, rfl, q hv H3 (k1.tr k13) ?_ (ihv.keep k13)⟩
        have W3 := W2.setA W1 as2 ea2 k3 e3
        rw [sm0] at W3
        simpa only [nx, spots, asks, hb] using W3
    · cases hx1 with
      | @lam p _ y _ hp hy =>
      refine ⟨_, rfl, p, _, _, _, rfl, rfl, hp, atI_nat rfl, rfl, _, rfl, iteF ?_⟩
      refine ⟨_, rfl, p, _, _, _, rfl, rfl, hp, atI_nat rfl, rfl, _, rfl, iteT ?_⟩
      have hd' : b.dp + 1 < m + 1 := hd
      have hj' : j + (b.dp + 1) ≤ 100 := hj
      have hl' : sp.length + (n :: spots (nm.put x (n + 1)) b (n + 1 + 1)).length ≤ 10000 := hl
      refine ⟨_, rfl, _, rfl, _, rfl, _, rfl, fa, dkn, Ls, La, nd, p, X, own, x, n + 1, sp.length, n, j, sp ++ [n], as ++ [([], [])], y, b, nm, sk, rfl, W1, hp, hy, by omega, hn1, by omega, by rw [List.getElem?_append_right (Nat.le_refl _), Nat.sub_self]; rfl, wf1 (n + 1), by rw [List.length_append, List.length_singleton]; rw [List.length_cons] at hl'; omega, fun H2 k2 W2 => ?_⟩
      refine ⟨_, rfl, q hv H2 (k1.tr k2) ?_ (ihv.keep k2)⟩
      rw [sm] at W2
      rw [List.append_assoc] at W2
      exact W2
  -- the others
  obtain ⟨p, w, rest, subs, own', n', hv', hsq, w1, w2, w3, ips, l3, e1, e2, e3, wfk, hown⟩ : ∃ (p : Addr) (w : Str) (rest : List V) (subs : List (Option Ex)) (own' : Ask) (n' : Nat), v = .ref p ∧ SqT K H1 p (.str w :: rest) ∧ decide (V.str w = V.str "name") = false ∧ decide (V.str w = V.str "fn") = false ∧ decide (V.str w = V.str "case") = false ∧ IsPs K H1 rest subs ∧ subs.length ≤ 3 ∧
      nx nm e n = n' ∧ spots nm e n = n :: spotsL nm (subs.filterMap id) (n + 1) ∧ asks sk nm e n = own' :: asksL sk nm (subs.filterMap id) (n + 1) ∧ (∀ e', some e' ∈ subs → WFX own (fun x => KsAt K (FF fa Ls La) H1 dkn x sk) nm e' ∧ e'.dp < m ∧ j + e'.dp ≤ 100) ∧
      ∀ (H' : Hp) (inn : Addr) (us : List V), Keep (FF fa Ls La) H1 H' → H' inn = some (.lst us) → IsKs K H' us ((headsL nm (subs.filterMap id) (n + 1)).map Kd.var) → OwnX K H' p inn n (nxL nm (subs.filterMap id) (n + 1)) own' n' := by
    cases hx1 with
    | @name p x hp => exact absurd (.inl ⟨x, rfl⟩) hnl
    | @lam p x y b hp hy => exact absurd (.inr ⟨x, b, rfl⟩) hnl
    | @num p i hp => exact ⟨p, _, _, [none], _, _, rfl, hp, rfl, rfl, rfl, .int .nil, (by show 1 ≤ 3; decide), rfl, rfl, rfl, (fun e' h => by simp at h), fun H' inn us k _ _ => .plain (.num (sqT_keep k hp))⟩
    | @empty p hp => exact ⟨p, _, _, [], _, _, rfl, hp, rfl, rfl, rfl, .nil, (by show 0 ≤ 3; decide), rfl, rfl, rfl, (fun e' h => by cases h), fun H' inn us k _ _ => .plain (.empty (sqT_keep k hp))⟩
    | @wth p l x y e r hp h1 h2 =>
      have hd' : max e.dp r.dp + 1 < m + 1 := hd
      have hj' : j + (max e.dp r.dp + 1) ≤ 100 := hj
      refine ⟨p, _, _, [none, some e, some r], ([(.var (nx nm e (n + 1)), .rc [] (some (nx nm r (nx nm e (n + 1))))), (.var n, .rc [(l, .var (n + 1))] (some (nx nm r (nx nm e (n + 1)))))], [(nx nm r (nx nm e (n + 1)), l)]), _, rfl, hp, rfl, rfl, rfl, .str (.ex h1 (.ex h2 .nil)), (by show 3 ≤ 3; decide), rfl, ?_, ?_, fun e' h => ?_, fun H' inn us k hi ik => ?_⟩
      · simp [spots, spotsL]
      · simp [asks, asksL]
      · simp at h
        rcases h with rfl | rfl
        · exact ⟨wf1.1, by omega, by omega⟩
        · exact ⟨wf1.2, by omega, by omega⟩
      · cases ik with
        | cons i0 ik =>
        cases ik with
        | cons i1 ik =>
        cases ik
        exact .wth (sqT_keep k hp) hi i0 i1
    | @app p x y f a hp h1 h2 =>
      have hd' : max f.dp a.dp + 1 < m + 1 := hd
      have hj' : j + (max f.dp a.dp + 1) ≤ 100 := hj
      refine ⟨p, _, _, [some f, some a], ([(.var (n + 1), .fn (.var (nx nm f (n + 1))) (.var n))], []), _, rfl, hp, rfl, rfl, rfl, .ex h1 (.ex h2 .nil), (by show 2 ≤ 3; decide), rfl, ?_, ?_, fun e' h => ?_, fun H' inn us k hi ik => ?_⟩
      · simp [spots, spotsL]
      · simp [asks, asksL]
      · simp at h
        rcases h with rfl | rfl
        · exact ⟨wf1.1, by omega, by omega⟩
        · exact ⟨wf1.2, by omega, by omega⟩
      · cases ik with
        | cons i0 ik =>
        cases ik with
        | cons i1 ik =>
        cases ik
        exact .plain (.app (sqT_keep k hp) hi i0 i1)
  subst hv'
  refine ⟨_, rfl, p, _, _, _, rfl, rfl, hsq, atI_nat rfl, rfl, _, rfl, ?_⟩
  rw [w1]
  refine iteF ⟨_, rfl, p, _, _, _, rfl, rfl, hsq, atI_nat rfl, rfl, _, rfl, ?_⟩
  rw [w2]
  refine iteF ⟨_, rfl, p, _, _, _, rfl, rfl, hsq, atI_nat rfl, rfl, _, rfl, ?_⟩
  rw [w3]
  refine iteF ?_
  have sx : HT.sIx (rest.length + 1) 0 (some 1) = 1 := by
    rw [show (some (1 : Int)) = some ((1 : Nat) : Int) from rfl, HT.sIx_nat]
    omega
  refine ⟨_, rfl, 1, rfl, p, V.str w :: rest, rfl, hsq, ?_, fun q0 nq0 => ?_⟩
  · rintro ⟨z, _⟩
    have z : HT.sIx (rest.length + 1) 0 (some 1) = 0 := z
    omega
  have cut : cutV (V.str w :: rest) (some 1) none = rest := by
    unfold cutV
    rw [HT.sIx_none, List.length_cons, sx]
    simp
  rw [cut]
  refine newG nq0 fun H2 s2 g2 => ?_
  refine ⟨q0, rfl, ⟨_, .of g2⟩, fun D nD => ?_⟩
  have lps := ips.length
  have nD1 : H1 D = none := s2.free nD
  have s1D : Same H1 (upd H2 D (.lst [])) := s2.trans (keep_new (S := No) nD).toSame
  have WD := W1.more s1D nD1 ⟨_, upd_same⟩
  have nDF : ¬ FF fa Ls La D := (WD.hx D (.inr rfl)).1
  rw [e2, List.length_cons] at hl
  refine lc_tup (K := K) (a := q0) (xs := rest) (fun i G => ∃ ps, G q0 = some (.tup rest) ∧ Keep (FF fa Ls La) H1 G ∧ FA K C G fa dkn Ls La (fun b => X b ∨ b = D) own (nxL nm ((subs.take i).filterMap id) (n + 1)) ((sp ++ [n]) ++ spotsL nm ((subs.take i).filterMap id) (n + 1)) ((as ++ [([], [])]) ++ asksL sk nm ((subs.take i).filterMap id) (n + 1)) ∧
      G D = some (.lst ps) ∧ IsKs K G ps ((headsL nm ((subs.take i).filterMap id) (n + 1)).map Kd.var) ∧ ps.length ≤ i)
    ⟨[], by rw [upd_ne (ne_of_none g2 nD)]; exact g2, Keep.same s1D, by simpa [nxL, spotsL, asksL] using WD, upd_same, .nil, Nat.le_refl _⟩ (fun i G _ ⟨_, k, _⟩ => .of k) ?_ ?_
  · rintro i x G hi ⟨ps, gq, kG, WG, gD, ikG, lp⟩
    have hil := (List.getElem?_eq_some_iff.mp hi).1
    rcases ips.get hi with ⟨hs, hx'⟩ | ⟨e', hs, hx'⟩
    · have tk : (subs.take (i + 1)).filterMap id = (subs.take i).filterMap id := by
        rw [take_snoc hs, List.filterMap_append]
        simp
      refine ⟨rfl, _, rfl, x, .ty "tuple", ?_⟩
      rcases hx' with ⟨z, rfl⟩ | ⟨z, rfl⟩
      · refine ⟨.type "int", .type "tuple", false, rfl, .ty _, .base (.int _), kit_ty (by decide +kernel), false, rfl, iteF ?_⟩
        exact ⟨ps, gq, kG, by rw [tk]; exact WG, gD, by rw [tk]; exact ikG, by omega⟩
      · refine ⟨.type "str", .type "tuple", false, rfl, .ty _, .base (.str _), kit_ty (by decide +kernel), false, rfl, iteF ?_⟩
        exact ⟨ps, gq, kG, by rw [tk]; exact WG, gD, by rw [tk]; exact ikG, by omega⟩
    · have tk : (subs.take (i + 1)).filterMap id = (subs.take i).filterMap id ++ [e'] := by
        rw [take_snoc hs, List.filterMap_append]
        simp
      have hsi := (List.getElem?_eq_some_iff.mp hs)
      obtain ⟨wf', dp', j'⟩ := wfk e' (List.mem_of_getElem? hs)
      have all : subs.filterMap id = (subs.take i).filterMap id ++ (e' :: (subs.drop (i + 1)).filterMap id) := by
        conv => lhs; rw [← List.take_append_drop i subs, List.filterMap_append, List.drop_eq_getElem_cons hsi.1, hsi.2]
        simp
      rw [all, spotsL_app] at hl
      simp only [spotsL, List.length_append] at hl
      refine ⟨rfl, _, rfl, x, .ty "tuple", .type "tuple", .type "tuple", true, rfl, .ty _, (hx'.keep kG).tup, kit_ty (by decide +kernel), true, rfl, iteT ?_⟩
      refine ⟨_, rfl, _, rfl, _, rfl, fa, dkn, Ls, La, nd, fun b => X b ∨ b = D, own, _, j, _, _, x, e', nm, sk, rfl, WG, hx'.keep kG, dp', hn1.keep kG nff, j', wf'.imp fun y ks => KsAt.keep ks kG, by rw [List.length_append, List.length_append, List.length_singleton]; omega, fun v' H4 k4 W4 i4 => ?_⟩
      have gD4 : H4 D = some (.lst ps) := k4.at gD nDF
      refine ⟨ps, gD4, sz_lt (by omega), ?_⟩
      refine mutG gD4 rfl fun H5 k5 g5 => ?_
      have nqD : q0 ≠ D := ne_of_none g2 nD
      have kk : Keep (FF fa Ls La) H1 H5 := (kG.tr k4).trans (k5.mono (S' := (· = D)) fun _ z => z) fun c z => .inr (by rw [z]; exact nD1)
      refine ⟨ps ++ [v'], k5.tup (k4.tup gq), kk, ?_, g5, ?_, by rw [List.length_append, List.length_singleton]; omega⟩
      · have W5 := W4.wat (.inr rfl) k5 ⟨_, g5⟩
        rw [tk, nxL_app, spotsL_app, asksL_app]
        simpa [nxL, spotsL, asksL] using W5
      · rw [tk, headsL_app, List.map_append]
        exact ((ikG.keep k4).keep k5).app (.cons (i4.keep k5) .nil)
  · rintro G ⟨ps, gq, kG, WG, gD, ikG, lp⟩
    rw [lps, List.take_length] at WG ikG
    have nDf : D ≠ fa := fun z => nDF (.inl z)
    refine ⟨_, rfl, _, rfl, _, rfl, _, rfl, fa, dkn, Ls, La, p, D, fun b => X b ∨ b = D, own, _, n', n, _, _, hv, own', rfl, WG, ihv.keep kG, nDf, hown G D ps kG gD ikG, fun v' H6 k6 W6 as6 => ?_⟩
    obtain ⟨dx6, ef6⟩ := W6.ins
    obtain ⟨us6, ea6, ia6⟩ := W6.has
    have ul6 : sp.length < us6.length := by
      rw [ia6.length, W6.ll, List.length_append, List.length_append, List.length_singleton]
      omega
    refine ⟨_, rfl, fa, C, dx6, _, _, rfl, ef6, T.cl, T.nA, rfl, _, rfl, La, us6, _, sp.length, rfl, rfl, ea6, ixN_nat ul6, ?_⟩
    refine mutG ea6 rfl fun H7 k7 e7 => ?_
    have W7 := (W6.setA WG as6 ea6 k7 e7).less (X := X) fun b z => .inl z
    rw [sm] at W7
    have k17 : Keep (FF fa Ls La) H1 H7 := (kG.tr (k6.mono fun _ z => .inl z)).tr (k7.mono fun _ z => .inr (.inr z))
    refine ⟨_, rfl, q hv H7 (k1.tr k17) ?_ (ihv.keep k17)⟩
    rw [e1, e2, e3]
    rw [List.append_assoc] at W7
    exact W7
theorem ok_find (D : Dfn K mg "find" s_find ["finder", "told", "names"]) (D' : Dfn K mg "find_fn" s_find_fn ["finder", "spot", "told", "names"]) (T0 : Txt K mg) (T : TF K mg C) (c_begun_spot : CalM P wd K mg base CX0 3 C "begun_spot" ["self"] (sp_begun_spot K C)) (c_won : Cal P wd K mg base CX0 10 "wants_of_name" ["finder", "held", "name", "names"] (sp_won K C))
    (c_wants_of : Cal P wd K mg base CX0 3 "wants_of" ["finder", "held", "told", "inner"] (sp_wants_of K C)) (c_made_kind : CalM P wd K mg base CX0 2 C "made_kind" ["self"] (sp_made_kind K C)) (c_with_name : Cal P wd K mg base CX0 1 "with_name" ["names", "name", "held"] (sp_with_name K)) :
    ∀ m, Cal P wd K mg base CX0 (3 * m + 10) "find" ["finder", "told", "names"] (sp_find K C m)
  | 0 => cal_none D fun vs H Q E ⟨_, _, _, _, _, _, _, _, _, _, _, _, _, _, _, _, _, _, h, _⟩ => absurd h (Nat.not_lt_zero _)
  | m + 1 => no_find D T0 T c_begun_spot c_won (no_find_fn D' T c_made_kind c_with_name (ok_find D D' T0 T c_begun_spot c_won c_wants_of c_made_kind c_with_name m)) (ok_find D D' T0 T c_begun_spot c_won c_wants_of c_made_kind c_with_name m) c_wants_of
end
end Fw
/-! Fw19: looked_through, solved_places, does_hold, all_spots, kinds_found. -/
namespace Fw
open PySem PySem.Spec PyProof.Rows L2
abbrev nm0 : Nm := fun _ => none
abbrev s_looked_through : Stmt := top 44
abbrev s_solved_places : Stmt := top 46
abbrev s_does_hold : Stmt := top 47
abbrev s_all_spots : Stmt := top 48
abbrev s_kinds_found : Stmt := top 49
theorem sc_looked_through : FnScope ["one", "known", "finder"] ["one", "known"] (defScope s_looked_through) := ⟨rfl, rfl, rfl, by decide +kernel, rfl, by decide +kernel, by decide +kernel⟩
theorem sc_solved_places : FnScope ["finder", "chosen", "pairs", "lacks", "k", "more", "rows"] ["finder", "chosen"] (defScope s_solved_places) := ⟨rfl, rfl, rfl, by decide +kernel, rfl, by decide +kernel, by decide +kernel⟩
theorem sc_does_hold : FnScope ["finder", "chosen"] ["finder", "chosen"] (defScope s_does_hold) := ⟨rfl, rfl, rfl, by decide +kernel, rfl, by decide +kernel, by decide +kernel⟩
theorem sc_all_spots : FnScope ["finder"] ["finder"] (defScope s_all_spots) := ⟨rfl, rfl, rfl, by decide +kernel, rfl, by decide +kernel, by decide +kernel⟩
theorem sc_kinds_found : FnScope ["finder", "filling", "lacks", "held"] ["finder"] (defScope s_kinds_found) := ⟨rfl, rfl, rfl, by decide +kernel, rfl, by decide +kernel, by decide +kernel⟩
def sp_finder (K : PySem.W.Frag) (C : Addr) : Sp := fun vs H Q _ => ∃ (fa dkn dx : Addr) (own : Str), vs = [.ref fa, .ref dkn, .str own] ∧ H fa = some (.ins C dx []) ∧ ∀ Ls La H', Keep (· = fa) H H' → FA K C H' fa dkn Ls La (fun _ => False) own 0 [] [] → H Ls = none → H La = none → Q .non H'
def sp_looked_through (K : PySem.W.Frag) (C : Addr) (m : Nat) : Sp := fun vs H Q _ => ∃ (on dkn : Addr) (own : Str) (v : V) (e : Ex) (sk : Kd) (kv : KVs), vs = [.ref on, .ref dkn] ∧ SqT K H on [.str own, v] ∧ IsX K H v e ∧ e.dp < m ∧ e.dp ≤ 90 ∧ H dkn = some (.dK kv) ∧ WFX own (fun x => KsAt K (fun _ => False) H dkn x sk) nm0 e ∧ (spots nm0 e 0).length ≤ 10000 ∧
  ∀ fa Ls La H', Same H H' → FA K C H' fa dkn Ls La (fun _ => False) own (nx nm0 e 0) (spots nm0 e 0) (asks sk nm0 e 0) → Q (.ref fa) H'
/-- the wants of the chosen places -/
def prsOf (as : List Ask) (ch : List Nat) : List (Kd × Kd) := ch.flatMap fun k => (as.getD k ([], [])).1
def lksOf (as : List Ask) (ch : List Nat) : List (Nat × Str) := ch.flatMap fun k => (as.getD k ([], [])).2
def inat (l : List Nat) : List V := l.map fun (k : Nat) => V.int (k : Int)
def sp_solved_places (K : PySem.W.Frag) (CF CN : Addr) : Sp := fun vs H Q E => ∃ (fa dkn Ls La Lc : Addr) (own : Str) (n : Nat) (sp : List Nat) (as : List Ask) (ch : List Nat) (B : Bd) (kn : Kn) (wt : Kd → Nat) (g : Nat → En), vs = [.ref fa, .ref Lc] ∧ FA K CF H fa dkn Ls La (fun _ => False) own n sp as ∧ H Lc = some (.lst (inat ch)) ∧ (∀ k ∈ ch, k < as.length) ∧
  SolC B (prsOf as ch) (lksOf as ch) kn wt g ∧
  ((∀ p ∈ prsOf as ch, wt p.1 ≤ 200) → ∀ (p df q : Addr) (us : List V) (H' : Hp), Same H H' → H' p = some (.tup [.ref df, .ref q]) → KnAt K B.N H' df (filK (numsL (kindsOf (prsOf as ch) (lksOf as ch))) kn g) → H' q = some (.lst us) → ((∀ t, t < B.N → B.Tk t → kn t ≠ none) → us = []) → Q (.ref p) H') ∧
  ((∃ p ∈ prsOf as ch, 200 < wt p.1) → ∀ H', Same H H' → E (.ref CN) none H')
/-- whether the wants of some places can be kept -/
structure Solv (as : List Ask) (ch : List Nat) (ok : Bool) : Prop where
  ex : ∃ B kn wt g, SolC B (prsOf as ch) (lksOf as ch) kn wt g ∧ (ok = true → ∀ p ∈ prsOf as ch, wt p.1 ≤ 200) ∧ (ok = false → ∃ p ∈ prsOf as ch, 200 < wt p.1)
def sp_does_hold (K : PySem.W.Frag) (CF : Addr) : Sp := fun vs H Q _ => ∃ (fa dkn Ls La Lc : Addr) (own : Str) (n : Nat) (sp : List Nat) (as : List Ask) (ch : List Nat) (ok : Bool), vs = [.ref fa, .ref Lc] ∧ FA K CF H fa dkn Ls La (fun _ => False) own n sp as ∧ H Lc = some (.lst (inat ch)) ∧ (∀ k ∈ ch, k < as.length) ∧ Solv as ch ok ∧ ∀ H', Same H H' → Q (.bl ok) H'
def sp_all_spots (K : PySem.W.Frag) (CF : Addr) : Sp := fun vs H Q _ => ∃ (fa dkn Ls La : Addr) (own : Str) (n : Nat) (sp : List Nat) (as : List Ask), vs = [.ref fa] ∧ FA K CF H fa dkn Ls La (fun _ => False) own n sp as ∧ sp.length ≤ 10000 ∧ ∀ p H', Same H H' → H p = none → H' p = some (.lst (inat (List.range sp.length))) → Q (.ref p) H'
/-- all wants can be kept: the first place's kind is d, no open row is left -/
structure SolF (as : List Ask) (d : Kd) : Prop where
  ex : ∃ B kn wt g, SolC B (prsOf as (List.range as.length)) (lksOf as (List.range as.length)) kn wt g ∧ (∀ p ∈ prsOf as (List.range as.length), wt p.1 ≤ 200) ∧ (∀ t, t < B.N → B.Tk t → kn t ≠ none) ∧
    0 ∈ numsL (kindsOf (prsOf as (List.range as.length)) (lksOf as (List.range as.length))) ∧ kn 0 ≠ none ∧ g 0 = .kd d
theorem SolF.solv {as : List Ask} {d : Kd} (h : SolF as d) : Solv as (List.range as.length) true := by
  obtain ⟨B, kn, wt, g, s, h1, _⟩ := h.ex
  exact ⟨B, kn, wt, g, s, fun _ => h1, fun z => by cases z⟩
def sp_kinds_found (K : PySem.W.Frag) (CF CN : Addr) : Sp := fun vs H Q E => ∃ (fa dkn Ls La : Addr) (own : Str) (n : Nat) (sp : List Nat) (as : List Ask), vs = [.ref fa] ∧ FA K CF H fa dkn Ls La (fun _ => False) own n (0 :: sp) as ∧ sp.length ≤ 9000 ∧
  ((∃ d, SolF as d ∧ ∀ p ks q v0 vs H', Same H H' → H' p = some (.tup [.ref ks, .ref q]) → H' ks = some (.lst (v0 :: vs)) → IsK K H' v0 d → H' q = some (.lst []) → Q (.ref p) H') ∨
   (Solv as (List.range as.length) false ∧ ∀ H', Same H H' → E (.ref CN) none H'))
theorem rg_v (n : Nat) : rgV 0 (n : Int) = inat (List.range n) := by
  unfold rgV inat
  simp
section
variable {P : Program} {wd : World} {K : PySem.W.Frag} {mg : Str → Option Value} {base : Heap} {C CN CW : Addr}
theorem ok_finder (D : Ini K C "Finder.__init__" s_finder ["self", "known", "own"]) (T : TF K mg C) : CalI P wd K mg base CX0 1 C ["self", "known", "own"] (sp_finder K C) := by
  have S := sc_finder
  refine calI_of D S (fun vs H Q E h => ?_) (fun f cdv A outer s H vs Q E hr h => ?_)
  · obtain ⟨fa, dkn, dx, own, rfl, _⟩ := h
    rfl
  obtain ⟨fa, dkn, dx, own, rfl, e, q⟩ := h
  refine ⟨_, (pss_cons (ps_fld (pv 0) (pv 1) rfl)
    (pss_cons (ps_fld (pv 0) (pv 2) rfl)
    (pss_cons (ps_fld (pv 0) pe_int rfl)
    (pss_cons (ps_fld (pv 0) (pe_lst pa_nil) rfl)
    (pss_one (ps_fld (pv 0) (pe_lst pa_nil) rfl)))))), ?_⟩
  refine ⟨_, rfl, _, rfl, fa, C, dx, [], rfl, e, T.cl, T.nK, (by show 0 < 1000; decide), ?_⟩
  refine mutG e rfl fun H1 k1 g1 => ?_
  refine ⟨_, rfl, _, rfl, fa, C, dx, _, rfl, g1, T.cl, T.nO, (by show 1 < 1000; decide), ?_⟩
  refine mutG g1 rfl fun H2 k2 g2 => ?_
  refine ⟨_, rfl, fa, C, dx, _, rfl, g2, T.cl, T.nF, (by show 2 < 1000; decide), ?_⟩
  refine mutG g2 rfl fun H3 k3 g3 => ?_
  have k13 := (k1.tr k2).tr k3
  refine ⟨(by show 0 ≤ sizeLine; decide), fun Ls nL => ?_⟩
  refine newG nL fun H4 s4 h4 => ?_
  refine ⟨_, rfl, fa, C, dx, _, rfl, s4 _ _ g3, T.cl, T.nS, (by show 3 < 1000; decide), ?_⟩
  refine mutG (s4 _ _ g3) rfl fun H5 k5 g5 => ?_
  have nLf : Ls ≠ fa := (ne_of_none g3 nL).symm
  have h5 := k5.at h4 nLf
  refine ⟨(by show 0 ≤ sizeLine; decide), fun La nA => ?_⟩
  refine newG nA fun H6 s6 h6 => ?_
  refine ⟨_, rfl, fa, C, dx, _, rfl, s6 _ _ g5, T.cl, T.nA, (by show 4 < 1000; decide), ?_⟩
  refine mutG (s6 _ _ g5) rfl fun H7 k7 g7 => ?_
  have nAf : La ≠ fa := (ne_of_none g5 nA).symm
  have nAL : Ls ≠ La := ne_of_none h5 nA
  have k35 := (k13.trN (same_keep s4)).tr k5
  exact q Ls La H7 ((k35.trN (same_keep s6)).tr k7) ⟨⟨dx, g7⟩, ⟨[], k7.at (s6 _ _ h5) nLf, .nil⟩, ⟨[], k7.at h6 nAf, .nil⟩, nAL, rfl, fun b z => z.elim⟩ (k13.free nL nLf) (k35.free nA nAf)
theorem KsAt.wide {S : Addr → Prop} {H H' : Hp} {d : Addr} {x : Str} {sk : Kd} (h : KsAt K (fun _ => False) H d x sk) (s : Same H H') (n : ∀ b, S b → H b = none) : KsAt K S H' d x sk := by
  obtain ⟨kvs, sc, ll, u, h1, h2, h3, h4, h5, h6, h7, h8⟩ := h
  exact ⟨kvs, sc, ll, u, s _ _ h1, h2, sqT_keep (same_keep s) h3, h4.keep (same_keep s), s _ _ h5, (fun z => (by rw [n _ z] at h1; cases h1)), (fun z => (by rw [n _ z] at h5; cases h5)), h8⟩
theorem ok_looked_through {m : Nat} (D : Dfn K mg "looked_through" s_looked_through ["one", "known"]) (T : TF K mg C) (c_finder : CalI P wd K mg base CX0 1 C ["self", "known", "own"] (sp_finder K C)) (c_find : Cal P wd K mg base CX0 (3 * m + 10) "find" ["finder", "told", "names"] (sp_find K C m)) :
    Cal P wd K mg base CX0 (3 * m + 11) "looked_through" ["one", "known"] (sp_looked_through K C m) := by
  have S := sc_looked_through
  refine cal_of D S (fun vs H Q E h => ?_) (fun f cdv A outer s H vs Q E hr h => ?_)
  · obtain ⟨on, dkn, own, v, e, sk, kv, rfl, _⟩ := h
    rfl
  obtain ⟨on, dkn, own, v, e, sk, kv, rfl, hon, hx, hd, hd2, hkn, wf, hl, q⟩ := h
  refine ⟨_, (pss_cons (ps_set (i := 2) S.nd rfl (Or.inl rfl) (pe_mak T.mgF c_finder (hr.mono (by omega)) pass0 (pa_cons (pv 1) (pa_cons (pe_ix ix_tup (pv 0) pe_int (fun _ _ => rfl)) pa_nil))))
    (pss_cons (ps_expr (pe_cal c_find hr pass0 (pa_cons (pv 2) (pa_cons (pe_ix ix_tup (pv 0) pe_int (fun _ _ => rfl)) (pa_cons pe_dnewK pa_nil)))))
    (pss_one (ps_ret (pv 2))))), ?_⟩
  refine ⟨_, rfl, _, rfl, on, _, _, _, rfl, rfl, hon, atI_nat rfl, fun fa dx nf ndx ndf => ?_⟩
  refine ⟨fa, dkn, dx, own, rfl, upd_same, fun Ls La H1 k1 W1 nL nA => ⟨rfl, ?_⟩⟩
  have un : ∀ {b}, (upd (upd H dx (.own fa)) fa (.ins C dx [])) b = none → H b = none ∧ b ≠ fa := fun {b} e => by
    by_cases h1 : b = fa
    · rw [h1, upd_same] at e; cases e
    · rw [upd_ne h1] at e
      by_cases h2 : b = dx
      · rw [h2, upd_same] at e; cases e
      · rw [upd_ne h2] at e
        exact ⟨e, h1⟩
  have s1 : Same H H1 := fun b o e => by
    have h1 : b ≠ fa := ne_of_none e nf
    have h2 : b ≠ dx := ne_of_none e ndx
    exact k1.at (by rw [upd_ne h1, upd_ne h2]; exact e) h1
  have nFF : ∀ b, FF fa Ls La b → H b = none := by
    rintro b (z | z | z)
    · rw [z]; exact nf
    · rw [z]; exact (un nL).1
    · rw [z]; exact (un nA).1
  refine ⟨_, rfl, _, rfl, on, _, _, _, rfl, rfl, sqT_keep (same_keep s1) hon, atI_nat rfl, fun nd nnd => ?_⟩
  refine newG nnd fun H2 s2 h2 => ?_
  have s12 := s1.trans s2
  refine ⟨fa, dkn, Ls, La, nd, fun _ => False, own, 0, 0, [], [], v, e, nm0, sk, rfl, W1.same s2, hx.keep (same_keep s12), hd, ⟨[], h2, Nat.le_refl _, fun l => .inl ⟨rfl, rfl⟩⟩, by omega, wf.imp fun y ks => KsAt.wide ks s12 nFF, by simpa using hl, fun v' H3 k3 W3 _ => ?_⟩
  refine ⟨_, rfl, q fa Ls La H3 (fun b o e => k3.at (s12 _ _ e) (fun z => by rw [nFF b z] at e; cases e)) ?_⟩
  simpa using W3
theorem ok_all_spots (D : Dfn K mg "all_spots" s_all_spots ["finder"]) (T0 : Txt K mg) (T : TF K mg C) : Cal P wd K mg base CX0 1 "all_spots" ["finder"] (sp_all_spots K C) := by
  have S := sc_all_spots
  refine cal_of D S (fun vs H Q E h => ?_) (fun f cdv A outer s H vs Q E hr h => ?_)
  · obtain ⟨fa, dkn, Ls, La, own, n, sp, as, rfl, _⟩ := h
    rfl
  obtain ⟨fa, dkn, Ls, La, own, n, sp, as, rfl, W, hl, q⟩ := h
  refine ⟨_, (pss_one (ps_ret (pe_listRg rfl rfl T0.list (prg_1 rfl T0.range (pe_callB call_len_seq rfl T0.len PySem.boot_len (pa_cons (pe_fld (pv 0) rfl) pa_nil)))))), ?_⟩
  obtain ⟨dx, e⟩ := W.ins
  obtain ⟨vs, es, is⟩ := W.hsp
  have l1 := is.length
  rw [List.length_map] at l1
  refine ⟨_, rfl, fa, C, dx, _, _, rfl, e, T.cl, T.nS, rfl, Ls, vs, rfl, .inl (.of es), ?_⟩
  refine ⟨_, rfl, RgOk.of_le (by omega) (by omega) (by omega) (by omega), fun p np => ?_⟩
  refine newG np fun H1 s1 h1 => ?_
  rw [rg_v, l1] at h1
  exact q p H1 s1 np h1
/-- filled, on an open kind -/
def sp_filledV (K : PySem.W.Frag) : Sp := fun vs H Q _ => ∃ (v : V) (a : Addr) (m : Nat) (kvs : KVs), vs = [v, .ref a] ∧ IsK K H v (.var m) ∧ H a = some (.dK kvs) ∧ Q ((valV kvs (Sum.inl (m : Int))).getD v) H
theorem ok_filledV (D : Dfn K mg "filled" s_filled ["told", "filling"]) : Cal P wd K mg base CX0 1 "filled" ["told", "filling"] (sp_filledV K) := by
  have S := sc_filled
  refine cal_of D S (fun vs H Q E h => ?_) (fun f cdv A outer s H vs Q E hr h => ?_)
  · obtain ⟨v, a, m, kvs, rfl, _⟩ := h
    rfl
  obtain ⟨v, a, m, kvs, rfl, hv, ha, q⟩ := h
  have hu := hu_of hr
  refine ⟨_, (pss_cons (ps_set (i := 2) S.nd rfl (Or.inl rfl) (pe_ix ix_tup (pv 0) pe_int (fun _ _ => rfl)))
    (pss_cons (ps_if (pt_cmpR op_eq (pv 2) pe_str (nomark _))
      (pss_one (ps_ret (pv 0)))
      pss_nil)
    (pss_cons (ps_if (pt_cmpR op_eq (pv 2) pe_str (nomark _))
      (pss_one (ps_ret (pe_dget2 hu (pv 1) (pe_ix ix_tup (pv 0) pe_int (fun _ _ => rfl)) (pv 0) ⟨rfl, rfl, rfl, rfl⟩)))
      pss_nil)
    pss_never))), ?_⟩
  cases hv with
  | @var p _ e =>
    refine ⟨_, rfl, p, _, _, _, rfl, rfl, e, atI_nat rfl, ?_⟩
    refine ⟨_, rfl, rfl, _, rfl, iteF ?_⟩
    refine ⟨_, rfl, rfl, _, rfl, iteT ?_⟩
    refine ⟨_, rfl, a, rfl, .inl ⟨_, .of ha⟩, _, rfl, p, _, _, _, rfl, rfl, e, atI_nat rfl, _, rfl, valV kvs (Sum.inl (m : Int)), .inl ⟨kvs, Sum.inl (m : Int), .of ha, rfl, rfl⟩, ?_⟩
    exact q
theorem ok_solved_places (D : Dfn K mg "solved_places" s_solved_places ["finder", "chosen"]) (T : TF K mg C) (c_solved : Cal P wd K mg base (L2.CX P wd) 16 "solved" ["pairs", "lacks"] (sp_solved K CW CN)) :
    Cal P wd K mg base (L2.CX P wd) 17 "solved_places" ["finder", "chosen"] (sp_solved_places K C CN) := by
  have S := sc_solved_places
  refine cal_ofX D S (fun vs H Q E h => ?_) (fun f cdv A outer s H vs Q E hr h => ?_)
  · obtain ⟨fa, dkn, Ls, La, Lc, own, n, sp, as, ch, B, kn, wt, g, rfl, _⟩ := h
    rfl
  obtain ⟨fa, dkn, Ls, La, Lc, own, n, sp, as, ch, B, kn, wt, g, rfl, W, hc, hb, sc, q1, q2⟩ := h
  have tk : Takes (cxOf (L2.CX P wd) P wd K mg base ["finder", "chosen", "pairs", "lacks", "k", "more", "rows"] "solved_places" (defScope s_solved_places) f cdv A outer s H E) (fun cls d _ H' => E cls d H') := takes_of rfl rfl rfl rfl
  refine ⟨_, (pss_cons (ps_set (i := 2) S.nd rfl (Or.inl rfl) (pe_lst pa_nil))
    (pss_cons (ps_set (i := 3) S.nd rfl (Or.inl rfl) (pe_lst pa_nil))
    (pss_cons (ps_for (passes_of rfl) rfl (pi_list (pv 1)) (pg_name (i := 4) S.nd rfl (Or.inl rfl))
      (pss_cons (ps_asg (pe_ix ix_list (pe_fld (pv 0) rfl) (pv 4) (fun _ _ => rfl)) (pg_tup rfl (pgs_cons (pg_name (i := 5) S.nd rfl (Or.inl rfl)) (pgs_cons (pg_name (i := 6) S.nd rfl (Or.inl rfl)) pgs_nil))))
      (pss_cons (ps_expr (pe_bm PySem.F.plainAttrs_list PySem.F.slot_list_extend PySem.F.type_list_extend mt_extend (pv 2) (pa_cons (pv 5) pa_nil)))
      (pss_one (ps_expr (pe_bm PySem.F.plainAttrs_list PySem.F.slot_list_extend PySem.F.type_list_extend mt_extend (pv 3) (pa_cons (pv 6) pa_nil)))))))
    (pss_one (ps_ret (pe_calS c_solved hr tk (pa_cons (pv 2) (pa_cons (pv 3) pa_nil)))))))), ?_⟩
  obtain ⟨dx, ef⟩ := W.ins
  obtain ⟨us, ea, ia⟩ := W.has
  refine ⟨(by show 0 ≤ sizeLine; decide), fun Lp nP => ?_⟩
  refine newG nP fun H1 s1 h1 => ?_
  refine ⟨(by show 0 ≤ sizeLine; decide), fun Ll nL => ?_⟩
  refine newG nL fun H2 s2 h2 => ?_
  have s12 := s1.trans s2
  have nLH : H Ll = none := s1.free nL
  have nPL : Lp ≠ Ll := ne_of_none h1 nL
  have bp := sc.bp
  have bq := sc.bq
  have tkl : ∀ {i k : Nat}, ch[i]? = some k → prsOf as (ch.take (i + 1)) = prsOf as (ch.take i) ++ (as.getD k ([], [])).1 ∧ lksOf as (ch.take (i + 1)) = lksOf as (ch.take i) ++ (as.getD k ([], [])).2 := fun {i k} e => by
    rw [take_snoc e]
    simp [prsOf, lksOf]
  have bpi : ∀ i, (prsOf as (ch.take i)).length ≤ 1000 := fun i => by
    have : prsOf as ch = prsOf as (ch.take i) ++ prsOf as (ch.drop i) := by
      unfold prsOf
      rw [← List.flatMap_append, List.take_append_drop]
    rw [this, List.length_append] at bp
    omega
  have bqi : ∀ i, (lksOf as (ch.take i)).length ≤ 1000 := fun i => by
    have : lksOf as ch = lksOf as (ch.take i) ++ lksOf as (ch.drop i) := by
      unfold lksOf
      rw [← List.flatMap_append, List.take_append_drop]
    rw [this, List.length_append] at bq
    omega
  refine ⟨_, rfl, Lc, rfl, ⟨_, .of (s12 _ _ hc)⟩, for_list (K := K) (a := Lc) (xs := inat ch) (fun i σ G => ∃ (x y z : Option V) (ps ys : List V), σ = [some (.ref fa), some (.ref Lc), some (.ref Lp), some (.ref Ll), x, y, z] ∧ Same H G ∧ G Lp = some (.lst ps) ∧ G Ll = some (.lst ys) ∧ IsW K G ps (prsOf as (ch.take i)) ∧ IsLk K G ys (lksOf as (ch.take i)))
    ⟨none, none, none, [], [], rfl, s12, s2 _ _ h1, h2, .nil, .nil⟩ (fun i σ G _ ⟨_, _, _, _, _, _, s, _⟩ => .of (s _ _ hc)) ?_ ?_⟩
  · rintro i x σ G hi ⟨x1, y1, z1, ps, ys, rfl, sG, gP, gL, iw, il⟩
    rw [inat, List.getElem?_map] at hi
    cases gk : ch[i]? with
    | none => rw [gk] at hi; cases hi
    | some k =>
      rw [gk] at hi
      cases hi
      have hk := hb k (List.mem_of_getElem? gk)
      have hku : k < us.length := by rw [ia.length]; exact hk
      obtain ⟨p, lp, ll, ps', ys', prs, lks, e1, e2, e3, e4, e5, e6, e7⟩ := ia.get (List.getElem?_eq_getElem hku)
      have gd : as.getD k ([], []) = (prs, lks) := by rw [List.getD_eq_getElem?_getD, e7]; rfl
      obtain ⟨t1, t2⟩ := tkl gk
      rw [gd] at t1 t2
      have b1 := bpi (i + 1)
      have b2 := bqi (i + 1)
      rw [t1, List.length_append] at b1
      rw [t2, List.length_append] at b2
      have b1 : (prsOf as (ch.take i)).length + prs.length ≤ 1000 := b1
      have b2 : (lksOf as (ch.take i)).length + lks.length ≤ 1000 := b2
      refine ⟨_, rfl, fa, C, dx, _, _, rfl, sG _ _ ef, T.cl, T.nA, rfl, _, rfl, La, us, _, _, rfl, rfl, .of (sG _ _ ea), atI_nat (List.getElem?_eq_getElem hku), ?_⟩
      rw [e1]
      refine ⟨p, _, rfl, sqT_keep (same_keep sG) e2, rfl, _, _, rfl, _, _, rfl, rfl, ?_⟩
      refine ⟨_, rfl, .inl ⟨rfl, _, .of gP⟩, _, rfl, Lp, lp, _, _, rfl, rfl, gP, sG _ _ e3, sz_le (by rw [iw.length, e5.length]; omega), ?_⟩
      refine mutG gP rfl fun G2 k2 g2 => ?_
      have nPH : H Lp = none := nP
      have sG2 : Same H G2 := same_over sG k2 nPH
      have gL2 := k2.at gL nPL.symm
      refine ⟨_, rfl, .inl ⟨rfl, _, .of gL2⟩, _, rfl, Ll, ll, _, _, rfl, rfl, gL2, sG2 _ _ e4, sz_le (by rw [il.length, e6.length]; omega), ?_⟩
      refine mutG gL2 rfl fun G3 k3 g3 => ?_
      refine ⟨_, _, _, _, _, rfl, same_over sG2 k3 nLH, k3.at g2 nPL, g3, ?_, ?_⟩
      · rw [t1]
        exact ((iw.keep k2).keep k3).app (((e5.keep (same_keep sG)).keep k2).keep k3)
      · rw [t2]
        exact ((il.keep k2).keep k3).app (((e6.keep (same_keep sG)).keep k2).keep k3)
  · rintro σ G ⟨x1, y1, z1, ps, ys, rfl, sG, gP, gL, iw, il⟩
    have le : (inat ch).length = ch.length := List.length_map _
    rw [le, List.take_length] at iw il
    refine ⟨_, rfl, _, rfl, Lp, Ll, ps, ys, _, _, B, kn, wt, g, rfl, gP, gL, iw, il, sc, fun h p df q us' H' s' => q1 h p df q us' H' (sG.trans s'), fun h H' s' => q2 h H' (sG.trans s')⟩
theorem ok_does_hold (D : Dfn K mg "does_hold" s_does_hold ["finder", "chosen"]) (N : TN K mg CN) (c_solved_places : Cal P wd K mg base (L2.CX P wd) 17 "solved_places" ["finder", "chosen"] (sp_solved_places K C CN)) :
    Cal P wd K mg base CX0 18 "does_hold" ["finder", "chosen"] (sp_does_hold K C) := by
  have S := sc_does_hold
  refine cal_of D S (fun vs H Q E h => ?_) (fun f cdv A outer s H vs Q E hr h => ?_)
  · obtain ⟨fa, dkn, Ls, La, Lc, own, n, sp, as, ch, ok, rfl, _⟩ := h
    rfl
  obtain ⟨fa, dkn, Ls, La, Lc, own, n, sp, as, ch, ok, rfl, W, hc, hb, ⟨B, kn, wt, g, sc, o1, o2⟩, q⟩ := h
  refine ⟨_, pss_one (ps_try_onlyE (tb := fun W => tDrop (tCallSD (sp_solved_places K C CN) [] (fun σ cls d H => W cls d σ H) (tCons (tVar 0) (tCons (tVar 1) tNil)))) (ts := fun _ _ _ => tRet (tC (.bl false))) (Wout := fun _ _ _ _ => False) (u := tRet (tC (.bl true))) (pss_one (ps_ret pe_bl)) rfl rfl ⟨rfl, by decide, Or.inl N.gP⟩ takes0
    (fun W pn xe tk _ => pss_one (ps_expr (pe_calS c_solved_places hr tk (by exact (pa_cons (pv 0) (pa_cons (pv 1) pa_nil)))))) (fun _ _ _ _ _ _ _ => pss_one (ps_ret pe_bl))), ?_⟩
  refine ⟨_, rfl, _, rfl, fa, dkn, Ls, La, Lc, own, n, sp, as, ch, B, kn, wt, g, rfl, W, hc, hb, sc, fun h p df q0 us H' s' _ _ _ _ => ?_, fun h H' s' => ?_⟩
  · cases ok with
    | true => exact q H' s'
    | false =>
      obtain ⟨p, hp, hw⟩ := o2 rfl
      exact absurd (h p hp) (by omega)
  · refine ⟨true, N.eP, fun _ a0 _ => ?_, fun z => by cases z⟩
    cases ok with
    | false => exact q H' s'
    | true =>
      obtain ⟨p, hp, hw⟩ := h
      exact absurd (o1 rfl p hp) (by omega)
theorem ok_kinds_found (D : Dfn K mg "kinds_found" s_kinds_found ["finder"]) (T : TF K mg C) (c_solved_places : Cal P wd K mg base (L2.CX P wd) 17 "solved_places" ["finder", "chosen"] (sp_solved_places K C CN)) (c_all_spots : Cal P wd K mg base CX0 1 "all_spots" ["finder"] (sp_all_spots K C)) (c_filled : Cal P wd K mg base CX0 1 "filled" ["told", "filling"] (sp_filledV K)) :
    Cal P wd K mg base (L2.CX P wd) 18 "kinds_found" ["finder"] (sp_kinds_found K C CN) := by
  have S := sc_kinds_found
  refine cal_ofX D S (fun vs H Q E h => ?_) (fun f cdv A outer s H vs Q E hr h => ?_)
  · obtain ⟨fa, dkn, Ls, La, own, n, sp, as, rfl, _⟩ := h
    rfl
  obtain ⟨fa, dkn, Ls, La, own, n, sp, as, rfl, W, hl, hq⟩ := h
  have tk : Takes (cxOf (L2.CX P wd) P wd K mg base ["finder", "filling", "lacks", "held"] "kinds_found" (defScope s_kinds_found) f cdv A outer s H E) (fun cls d _ H' => E cls d H') := takes_of rfl rfl rfl rfl
  refine ⟨_, (pss_cons (ps_asg (pe_calS c_solved_places hr tk (pa_cons (pv 0) (pa_cons (pe_cal c_all_spots (hr.mono (by decide)) pass0 (pa_cons (pv 0) pa_nil)) pa_nil))) (pg_tup rfl (pgs_cons (pg_name (i := 1) S.nd rfl (Or.inr rfl)) (pgs_cons (pg_name (i := 2) S.nd rfl (Or.inl rfl)) pgs_nil))))
    (pss_one (ps_ret (pe_tup (pa_cons (pe_lc (own := [("held", 3)]) rfl S.nd (pi_list (pe_fld (pv 0) rfl)) (blkOk_by (own := [("held", 3)]) (N := ["finder", "filling", "lacks", "held"]) (sc := defScope s_kinds_found) (by decide +kernel)) (fun _ _ _ _ _ => (pg_name (i := 3) S.nd rfl (Or.inl rfl))) (fun _ _ _ _ _ => pts_nil) (fun _ _ _ _ _ => (pe_cal c_filled (hr.mono (by decide)) pass0 (pa_cons (pv 3) (pa_cons (pv 1) pa_nil))))) (pa_cons (pv 2) pa_nil)))))), ?_⟩
  obtain ⟨dx, ef⟩ := W.ins
  obtain ⟨vs, es, is⟩ := W.hsp
  have l1 := is.length
  rw [List.length_map, List.length_cons] at l1
  have l2 := W.ll
  refine ⟨_, rfl, _, rfl, fa, dkn, Ls, La, own, n, 0 :: sp, as, rfl, W, by rw [List.length_cons]; omega, fun Lc H1 s1 nc h1 => ?_⟩
  rw [← l2] at h1
  have lt : ∀ k ∈ List.range as.length, k < as.length := fun k hk => List.mem_range.mp hk
  rcases hq with ⟨d, ⟨B, kn, wt, g, sc, o1, o2, o3, o4, o5⟩, q⟩ | ⟨⟨B, kn, wt, g, sc, o1, o2⟩, q⟩
  · refine ⟨fa, dkn, Ls, La, Lc, own, n, 0 :: sp, as, _, B, kn, wt, g, rfl, W.same s1, h1, lt, sc, fun h p df q0 us H2 s2 gp kd gq hus => ?_, fun ⟨p, hp, hw⟩ => absurd (o1 p hp) (by omega)⟩
    rw [hus o2] at gq
    refine ⟨p, _, rfl, .of gp, rfl, _, _, rfl, _, _, rfl, rfl, ?_⟩
    have s12 := s1.trans s2
    obtain ⟨kvs, f0, _, _, f3⟩ := id kd
    obtain ⟨v0, hv0, iv0⟩ : ∃ v0, valV kvs (Sum.inl ((0 : Nat) : Int)) = some v0 ∧ IsK K H2 v0 d := by
      rcases f3 0 with ⟨z, _⟩ | ⟨e, v, z, z1, z2⟩
      · cases hk : kn 0 with
        | none => exact absurd hk o4
        | some e0 =>
          unfold filK at z
          rw [if_pos o3, hk] at z
          cases z
      · cases hk : kn 0 with
        | none => exact absurd hk o4
        | some e0 =>
          unfold filK at z
          rw [if_pos o3, hk] at z
          cases z
          rw [o5] at z2
          exact ⟨v, z1, z2⟩
    refine ⟨_, rfl, fa, C, dx, _, _, rfl, s12 _ _ ef, T.cl, T.nS, rfl, Ls, rfl, ⟨_, .of (s12 _ _ es)⟩, fun D nD => ?_⟩
    refine lc_list (K := K) (a := Ls) (xs := vs) (fun i G => ∃ ws, Same H2 G ∧ G D = some (.lst ws) ∧ ws.length = i ∧ (0 < i → ws[0]? = some v0))
      ⟨[], keep_new (S := No) nD |>.toSame, upd_same, rfl, fun z => absurd z (Nat.lt_irrefl _)⟩ (fun i G _ ⟨_, s, _⟩ => .of (s _ _ (s12 _ _ es))) ?_ ?_
    · rintro i x G hi ⟨ws, sG, gD, lw, w0⟩
      obtain ⟨kd', hk', ik'⟩ := is.get hi
      rw [List.getElem?_map] at hk'
      cases hm : (0 :: sp)[i]? with
      | none => rw [hm] at hk'; cases hk'
      | some m =>
        rw [hm] at hk'
        cases hk'
        have hil := (List.getElem?_eq_some_iff.mp hi).1
        refine ⟨rfl, tyes ⟨_, rfl, _, rfl, x, df, m, kvs, rfl, ik'.keep (same_keep (s12.trans sG)), sG _ _ f0, ws, gD, sz_lt (by omega), ?_⟩⟩
        refine mutG gD rfl fun G2 k2 g2 => ?_
        refine ⟨ws ++ [(valV kvs (Sum.inl (m : Int))).getD x], same_over sG k2 nD, g2, by rw [List.length_append, List.length_singleton, lw], fun _ => ?_⟩
        cases i with
        | zero =>
          have : ws = [] := List.length_eq_zero_iff.mp lw
          subst this
          have hm : some 0 = some m := hm
          cases hm
          show some ((valV kvs (Sum.inl ((0 : Nat) : Int))).getD x) = some v0
          rw [hv0]
          rfl
        | succ i =>
          rw [List.getElem?_append_left (by omega)]
          exact w0 (Nat.succ_pos _)
    · rintro G ⟨ws, sG, gD, lw, w0⟩
      refine ⟨_, rfl, (by show 2 ≤ sizeLine; decide), newO (Q := fun p H' => Q (.ref p) H') fun p2 H4 n4 s4 g4 => ?_⟩
      have hw0 := w0 (by omega)
      cases ws with
      | nil => cases hw0
      | cons w ws =>
        have hw0 : some w = some v0 := hw0
        cases hw0
        exact q p2 D q0 v0 ws H4 (s12.trans (sG.trans s4)) g4 (s4 _ _ gD) (iv0.keep (same_keep (sG.trans s4))) (s4 _ _ (sG _ _ gq))
  · refine ⟨fa, dkn, Ls, La, Lc, own, n, 0 :: sp, as, _, B, kn, wt, g, rfl, W.same s1, h1, lt, sc, fun h => ?_, fun _ H2 s2 => q H2 (s1.trans s2)⟩
    obtain ⟨p, hp, hw⟩ := o2 rfl
    exact absurd (h p hp) (by omega)
end
end Fw
/-! Fw20: named, known_above, schemes, hold, least_clash, clash. -/
namespace Fw
open PySem PySem.Spec PyProof.Rows L2
abbrev s_named : Stmt := top 11
theorem sc_named : FnScope ["told", "lacks", "tails", "order", "filling", "k", "number", "wanted", "label", "labels"] ["told", "lacks"] (defScope s_named) := ⟨rfl, rfl, rfl, by decide +kernel, rfl, by decide +kernel, by decide +kernel⟩
/-- a shut kind of one number, or of none -/
structure NmOk (d : Kd) (m0 : Option Nat) : Prop where
  ns : addN [] d.nums = (m0.toList.map fun (m : Nat) => ((Sum.inl (m : Int) : L2.Key), V.bl true))
  ln : d.nums.length ≤ 10000
  dp : d.dp < 4
  bnd : d.bnd B0
  cld : d.cld
def nS (m0 : Option Nat) : Nat → Kd := fun m => if m0 = some m then .var 0 else .var m
def sp_named (K : PySem.W.Frag) : Sp := fun vs H Q _ => ∃ (v : V) (ll : Addr) (d : Kd) (m0 : Option Nat), vs = [v, .ref ll] ∧ IsK K H v d ∧ H ll = some (.lst []) ∧ NmOk d m0 ∧
  ∀ (p l' : Addr) (v' : V) (H' : Hp), Same H H' → H' p = some (.tup [v', .ref l']) → IsK K H' v' (d.sub (nS m0)) → H' l' = some (.lst []) → Q (.ref p) H'
section
variable {P : Program} {wd : World} {K : PySem.W.Frag} {mg : Str → Option Value} {base : Heap} {C CN CW : Addr}
theorem ok_named (D : Dfn K mg "named" s_named ["told", "lacks"]) (T0 : Txt K mg) (c_note_tails : Cal P wd K mg base CX0 4 "note_tails" ["told", "seen"] (sp_note_tails K 4)) (c_numbers : Cal P wd K mg base CX0 5 "numbers" ["told"] (sp_numbers K 4)) (c_filled : Cal P wd K mg base CX0 8 "filled" ["told", "filling"] (sp_filled K 4)) :
    Cal P wd K mg base CX0 9 "named" ["told", "lacks"] (sp_named K) := by
  have S := sc_named
  refine cal_of D S (fun vs H Q E h => ?_) (fun f cdv A outer s H vs Q E hr h => ?_)
  · obtain ⟨v, ll, d, m0, rfl, _⟩ := h
    rfl
  obtain ⟨v, ll, d, m0, rfl, hv, hll, ok, q⟩ := h
  have hu := hu_of hr
  refine ⟨_, (pss_cons (ps_set (i := 2) S.nd rfl (Or.inl rfl) pe_dnewK)
    (pss_cons (ps_expr (pe_cal c_note_tails (hr.mono (by decide)) pass0 (pa_cons (pv 0) (pa_cons (pv 2) pa_nil))))
    (pss_cons (ps_set (i := 3) S.nd rfl (Or.inl rfl) pe_dnewK)
    (pss_cons (ps_set (i := 4) S.nd rfl (Or.inl rfl) pe_dnewK)
    (pss_cons (ps_for PassesOwn.never rfl (pi_enum rfl T0.enumerate (pa_cons (pe_cal c_numbers (hr.mono (by decide)) pass0 (pa_cons (pv 0) pa_nil)) pa_nil)) (pg_tup rfl (pgs_cons (pg_name (i := 5) S.nd rfl (Or.inl rfl)) (pgs_cons (pg_name (i := 6) S.nd rfl (Or.inl rfl)) pgs_nil)))
      (pss_cons (ps_dput hu (pv 3) (pv 6) (pv 5) rfl)
      (pss_one (ps_if (pt_cmp (pc_din hu (pv 6) (pv 2)))
        pss_never
        (pss_one (ps_dput hu (pv 4) (pv 6) (pe_tup (pa_cons pe_str (pa_cons (pv 5) pa_nil))) rfl))))))
    (pss_cons (ps_set (i := 7) S.nd rfl (Or.inl rfl) pe_dnewK)
    (pss_cons (ps_for PassesOwn.never rfl (pi_list (pv 1)) (pg_tup rfl (pgs_cons (pg_name (i := 6) S.nd rfl (Or.inl rfl)) (pgs_cons (pg_name (i := 8) S.nd rfl (Or.inl rfl)) pgs_nil)))
      pss_never)
    (pss_cons (ps_lock (ps_for PassesOwn.never rfl (pi_items (pv 2)) (pg_tup rfl (pgs_cons (pg_name (i := 6) S.nd rfl (Or.inl rfl)) (pgs_cons (pg_name (i := 9) S.nd rfl (Or.inl rfl)) pgs_nil)))
      pss_never))
    (pss_one (ps_ret (pe_tup (pa_cons (pe_cal c_filled hr pass0 (pa_cons (pv 0) (pa_cons (pv 4) pa_nil))) (pa_cons (pe_callB cr_sorted rfl T0.sorted (by decide +kernel) (pa_cons (pe_callTy (call_list_dK rfl) rfl T0.list (by decide +kernel) (pa_cons (pv 7) pa_nil)) pa_nil)) pa_nil))))))))))))), ?_⟩
  intro a na
  refine newG na fun H1 s1 h1 => ?_
  refine ⟨_, rfl, _, rfl, v, a, d, B0, (· = a), rfl, hv.keep (same_keep s1), ok.dp, ok.bnd, by decide, by decide, lk_new h1, fun S2 H2 k2 L2' _ => ?_⟩
  have s2 : Same H H2 := fun b o e => k2.1.at (s1 _ _ e) (ne_of_none e na)
  have h2 : H2 a = some (.dK []) := by
    obtain ⟨⟨kvs, o0, _, _, _, o4⟩, _⟩ := L2'
    cases kvs with
    | nil => exact o0
    | cons e r =>
      obtain ⟨t, b, _, _, z, _⟩ := o4 e List.mem_cons_self
      exact z.elim
  intro o no
  refine newG no fun H3 s3 h3 => ?_
  intro df ndf
  refine newG ndf fun H4 s4 h4 => ?_
  have s04 := (s2.trans s3).trans s4
  refine ⟨_, rfl, v, d, rfl, hv.keep (same_keep s04), ok.dp, ok.ln, fun p H5 s5 np h5 => ?_⟩
  rw [ok.ns, List.map_map] at h5
  have s05 := s04.trans s5
  have noa : o ≠ a := (ne_of_none h2 no).symm
  have nda : df ≠ a := (ne_of_none (s3 _ _ h2) ndf).symm
  have ndo : df ≠ o := (ne_of_none h3 ndf).symm
  have npo : p ≠ o := ne_of h5 (s5 _ _ (s4 _ _ h3)) (by intro z; cases z)
  have npd : p ≠ df := ne_of h5 (s5 _ _ h4) (by intro z; cases z)
  have noH : H o = none := s2.free no
  have ndH : H df = none := (s2.trans s3).free ndf
  have ho5 := s5 _ _ (s4 _ _ h3)
  have hd5 := s5 _ _ h4
  have ha5 := s5 _ _ (s4 _ _ (s3 _ _ h2))
  have hp5 : H5 p = some (.lst (m0.toList.map fun (m : Nat) => V.int (m : Int))) := h5
  refine ⟨p, _, rfl, .of hp5, for_it (walk_enum (K := K) (a := p) (xs := m0.toList.map fun (m : Nat) => V.int (m : Int))) (fun i σ G => ∃ (x y : Option V), σ = [some v, some (.ref ll), some (.ref a), some (.ref o), some (.ref df), x, y, none, none, none] ∧ Keep (fun b => b = o ∨ b = df) H5 G ∧
      ((i = 0 ∧ G o = some (.dK []) ∧ G df = some (.dK [])) ∨ (i = 1 ∧ ∃ (m : Nat) (u : V), m0 = some m ∧ G df = some (.dK [(Sum.inl (m : Int), u)]) ∧ IsK K G u (.var 0))))
    ⟨none, none, rfl, .refl _, .inl ⟨rfl, ho5, hd5⟩⟩ (fun i σ G _ ⟨_, _, _, k, _⟩ => .of (k.at hp5 (by rintro (z | z); exact npo z; exact npd z))) ?_ ?_⟩
  · rintro i x σ G G' hi ⟨x1, y1, rfl, k, hs⟩ ⟨T, u1, u2, rfl, nT, rfl, eu1, eu2⟩
    cases m0 with
    | none => exact absurd hi (Nat.not_lt_zero _)
    | some m =>
      have hi : i < 1 := hi
      have i0 : i = 0 := by omega
      subst i0
      cases eu1
      have eu2 : some (V.int (m : Int)) = some u2 := eu2
      cases eu2
      rcases hs with ⟨_, go, gd⟩ | ⟨z, _⟩
      case inr => cases z
      refine newG nT fun G1 t1 gT => ?_
      refine ⟨T, _, rfl, .of gT, rfl, _, _, rfl, _, _, rfl, rfl, ?_⟩
      refine ⟨_, rfl, _, rfl, _, rfl, o, _, rfl, DPut.k (k := Sum.inl (m : Int)) (t1 _ _ go) (sz_lt (by show 0 ≤ 100000; decide)), ?_⟩
      refine mutG (t1 _ _ go) rfl fun G2 k2 g2 => ?_
      have k52 : Keep (fun b => b = o ∨ b = df) H5 G2 := (k.trN (same_keep t1)).tr (k2.mono fun _ z => .inl z)
      have ha2 : G2 a = some (.dK []) := k52.at ha5 (by rintro (z | z); exact noa z.symm; exact nda z.symm)
      refine ⟨_, rfl, _, rfl, a, none, rfl, .inl ⟨[], Sum.inl (m : Int), .of ha2, rfl, rfl⟩, _, rfl, iteF ?_⟩
      have gd2 : G2 df = some (.dK []) := k2.at (t1 _ _ gd) ndo
      refine ⟨_, rfl, (by show 2 ≤ sizeLine; decide), fun p2 n2 => ?_⟩
      refine newG n2 fun G3 t3 g3 => ?_
      refine ⟨_, rfl, _, rfl, df, _, rfl, DPut.k (k := Sum.inl (m : Int)) (t3 _ _ gd2) (sz_lt (by show 0 ≤ 100000; decide)), ?_⟩
      refine mutG (t3 _ _ gd2) rfl fun G4 k4 g4 => ?_
      exact ⟨_, _, rfl, (k52.trN (same_keep t3)).tr (k4.mono fun _ z => .inr z),   .inr ⟨rfl, m, _, rfl, g4, .var (sqT_keep k4 (.of g3))⟩⟩
  · rintro σ G ⟨x1, y1, rfl, k, hs⟩
    have kH : Same H G := fun b u e => k.at (s05 _ _ e) (by rintro (z | z); rw [z, noH] at e; cases e; rw [z, ndH] at e; cases e)
    have fil : Fil K G df (nS m0) := by
      rcases hs with ⟨hi, _, gd⟩ | ⟨_, m, u, e1, e2, e3⟩
      · cases m0 with
        | none => exact ⟨[], gd, fun m => .inr ⟨rfl, rfl⟩⟩
        | some m => cases hi
      · refine ⟨_, e2, fun j => ?_⟩
        by_cases hj : j = m
        · subst hj
          refine .inl ⟨u, valV_of_mem (by simp) List.mem_cons_self, ?_⟩
          have : nS m0 j = .var 0 := by unfold nS; rw [if_pos e1]
          rw [this]
          exact e3
        · refine .inr ⟨?_, ?_⟩
          · cases hq : valV ([(Sum.inl (m : Int), u)] : KVs) (Sum.inl (j : Int)) with
            | none => rfl
            | some w =>
              have hz := valV_mem hq
              rw [List.mem_singleton] at hz
              have := Sum.inl.inj (Prod.mk.inj hz).1
              omega
          · unfold nS
            rw [if_neg]
            rw [e1]
            intro z
            exact hj (Option.some.inj z).symm
    have gdf : ∃ o', G df = some o' := by
      rcases hs with ⟨_, _, gd⟩ | ⟨_, m, u, _, gd, _⟩
      · exact ⟨_, gd⟩
      · exact ⟨_, gd⟩
    intro wa nw
    refine newG nw fun G1 t1 gw => ?_
    have kH1 := kH.trans t1
    have hl1 := kH1 _ _ hll
    refine ⟨_, rfl, ll, rfl, ⟨_, .of hl1⟩, for_list (K := K) (a := ll) (xs := []) (fun i σ G' => σ = [some v, some (.ref ll), some (.ref a), some (.ref o), some (.ref df), x1, y1, some (.ref wa), none, none] ∧ G' = G1) ⟨rfl, rfl⟩ (fun i σ G' _ ⟨_, h⟩ => by rw [h]; exact .of hl1) (fun i x σ G' hi => by cases hi) ?_⟩
    rintro σ G' ⟨rfl, rfl⟩
    have ga1 : G' a = some (.dK []) := t1 _ _ (k.at ha5 (by rintro (z | z); exact noa z.symm; exact nda z.symm))
    refine lock_items (d := a) (kvs := []) ga1 (fun od i σ G2 => σ = [some v, some (.ref ll), some (.ref a), some (.ref o), some (.ref df), x1, y1, some (.ref wa), none, none] ∧ G2 = upd G' a (.frz od (.dK [])))
      (fun od R h => ⟨_, rfl, h⟩) (fun od => ⟨rfl, rfl⟩) (fun od i σ G2 ⟨_, h⟩ => by rw [h]; exact upd_same) (fun od i k v σ G T G' r bb c z => by cases z) ?_
    rintro od σ G2 ⟨rfl, rfl⟩
    have sG : Same G' (upd (upd G' a (.frz od (.dK []))) a (.dK [])) := fun b u e => by
      by_cases hb : b = a
      · subst hb
        rw [ga1] at e
        cases e
        exact upd_same
      · rw [upd_ne hb, upd_ne hb]
        exact e
    generalize upd (upd G' a (.frz od (.dK []))) a (.dK []) = G3 at sG
    have kH3 := kH1.trans sG
    have fil3 : Fil K G3 df (nS m0) := fil.keep (same_keep (t1.trans sG)) id
    refine ⟨_, rfl, _, rfl, v, df, d, nS m0, rfl, hv.keep (same_keep kH3), ok.dp, ok.cld, fil3, fun v' G4 t4 i4 => ?_⟩
    refine ⟨_, rfl, wa, [], rfl, t4 _ _ (sG _ _ gw), fun q1 nq1 => ?_⟩
    refine newG nq1 fun G5 t5 g5 => ?_
    refine ⟨q1, [], rfl, .of g5, by decide, fun ns' q2 pm _ nq2 => ?_⟩
    have : ns' = [] := List.perm_nil.mp pm
    subst this
    refine newG nq2 fun G6 t6 g6 => ?_
    refine ⟨(by show 2 ≤ sizeLine; decide), newO (Q := fun p H' => Q (.ref p) H') fun p2 H8 n8 t8 g8 => ?_⟩
    exact q p2 q2 v' H8 (kH3.trans (t4.trans (t5.trans (t6.trans t8)))) g8 (i4.keep (same_keep (t5.trans (t6.trans t8)))) (t8 _ _ g6)
end
end Fw
/-! Fw21: known_above, schemes, hold, least_clash, clash. -/
namespace Fw
open PySem PySem.Spec PyProof.Rows L2
abbrev s_known_above : Stmt := top 50
abbrev s_schemes : Stmt := top 51
abbrev s_hold : Stmt := top 52
abbrev s_least_clash : Stmt := top 53
abbrev s_clash : Stmt := top 54
theorem sc_known_above : FnScope ["program", "many", "known", "one", "kinds", "lacks"] ["program", "many"] (defScope s_known_above) := ⟨rfl, rfl, rfl, by decide +kernel, rfl, by decide +kernel, by decide +kernel⟩
theorem sc_schemes : FnScope ["program"] ["program"] (defScope s_schemes) := ⟨rfl, rfl, rfl, by decide +kernel, rfl, by decide +kernel, by decide +kernel⟩
theorem sc_hold : FnScope ["program", "k", "chosen"] ["program", "k", "chosen"] (defScope s_hold) := ⟨rfl, rfl, rfl, by decide +kernel, rfl, by decide +kernel, by decide +kernel⟩
theorem sc_least_clash : FnScope ["finder", "stay", "k", "fewer", "spot"] ["finder"] (defScope s_least_clash) := ⟨rfl, rfl, rfl, by decide +kernel, rfl, by decide +kernel, by decide +kernel⟩
theorem sc_clash : FnScope ["program", "known", "one", "finder", "kinds", "lacks"] ["program"] (defScope s_clash) := ⟨rfl, rfl, rfl, by decide +kernel, rfl, by decide +kernel, by decide +kernel⟩
/-- a program of two defs -/
def PrgAt (K : PySem.W.Frag) (H : Hp) (L : Addr) (n1 : Str) (e1 e2 : Ex) : Prop := ∃ (o1 o2 : Addr) (v1 v2 : V), H L = some (.lst [.ref o1, .ref o2]) ∧ SqT K H o1 [.str n1, v1] ∧ SqT K H o2 [.str "main", v2] ∧ IsX K H v1 e1 ∧ IsX K H v2 e2
theorem PrgAt.same {K : PySem.W.Frag} {H H' : Hp} {L : Addr} {n1 : Str} {e1 e2 : Ex} (h : PrgAt K H L n1 e1 e2) (s : Same H H') : PrgAt K H' L n1 e1 e2 := by
  obtain ⟨o1, o2, v1, v2, a, b, c, d, e⟩ := h
  exact ⟨o1, o2, v1, v2, s _ _ a, sqT_keep (same_keep s) b, sqT_keep (same_keep s) c, d.keep (same_keep s), e.keep (same_keep s)⟩
/-- what is known of the two defs, in plain -/
structure PF (n1 : Str) (e1 e2 : Ex) (d1 : Kd) (m1 : Option Nat) (d2 : Kd) (okc : List Nat → Bool) : Prop where
  ne : n1 ≠ "main"
  dp1 : e1.dp < 14
  dp2 : e2.dp < 14
  wf1 : WFX n1 (fun _ => False) nm0 e1
  wf2 : WFX "main" (fun x => x = n1) nm0 e2
  hd1 : ∃ r, spots nm0 e1 0 = 0 :: r ∧ r.length ≤ 9000
  hd2 : ∃ r, spots nm0 e2 0 = 0 :: r ∧ r.length ≤ 9000
  sol1 : ∀ sk, SolF (asks sk nm0 e1 0) d1
  nm1 : NmOk d1 m1
  sc1 : ScOk (d1.sub (nS m1))
  len2 : (asks (d1.sub (nS m1)) nm0 e2 0).length = (spots nm0 e2 0).length
  part : ∀ ch, ch.Sublist (List.range (spots nm0 e2 0).length) → Solv (asks (d1.sub (nS m1)) nm0 e2 0) ch (okc ch)
  all : okc (List.range (spots nm0 e2 0).length) = true → SolF (asks (d1.sub (nS m1)) nm0 e2 0) d2 ∧ NmOk d2 none
/-- the scheme of the first def, known -/
def Kn1 (K : PySem.W.Frag) (H : Hp) (sc : Addr) (d : Kd) : Prop := ∃ (u : V) (ll : Addr), SqT K H sc [u, .ref ll] ∧ IsK K H u d ∧ H ll = some (.lst [])
theorem Kn1.same {K : PySem.W.Frag} {H H' : Hp} {sc : Addr} {d : Kd} (h : Kn1 K H sc d) (s : Same H H') : Kn1 K H' sc d := by
  obtain ⟨u, ll, a, b, c⟩ := h
  exact ⟨u, ll, sqT_keep (same_keep s) a, b.keep (same_keep s), s _ _ c⟩
theorem Kn1.off {K : PySem.W.Frag} {H H' : Hp} {sc D : Addr} {d : Kd} {kv : KVs} (h : Kn1 K H sc d) (k : Keep (· = D) H H') (e : H D = some (.dK kv)) : Kn1 K H' sc d := by
  obtain ⟨u, ll, a, b, c⟩ := h
  exact ⟨u, ll, sqT_keep k a, b.keep k, k.at c fun z => by rw [z, e] at c; cases c⟩
def sp_known_above (K : PySem.W.Frag) (CN : Addr) : Sp := fun vs H Q E => ∃ (L : Addr) (n1 : Str) (e1 e2 : Ex) (d1 d2 : Kd) (m1 : Option Nat) (okc : List Nat → Bool), PrgAt K H L n1 e1 e2 ∧ PF n1 e1 e2 d1 m1 d2 okc ∧
  ((vs = [.ref L, .int 1] ∧ ∀ (p sc : Addr) (H' : Hp), Same H H' → H' p = some (.dK [(Sum.inr n1, .ref sc)]) → Kn1 K H' sc (d1.sub (nS m1)) → Q (.ref p) H') ∨
   (vs = [.ref L, .int 2] ∧ (okc (List.range (spots nm0 e2 0).length) = true → ∀ (p sc sc2 : Addr) (H' : Hp), Same H H' → H' p = some (.dK [(Sum.inr n1, .ref sc), (Sum.inr "main", .ref sc2)]) → Kn1 K H' sc2 (d2.sub (nS none)) → Q (.ref p) H') ∧ (okc (List.range (spots nm0 e2 0).length) = false → ∀ H', Same H H' → E (.ref CN) none H')))
def sp_schemes (K : PySem.W.Frag) (CN : Addr) : Sp := fun vs H Q E => ∃ (L : Addr) (n1 : Str) (e1 e2 : Ex) (d1 d2 : Kd) (m1 : Option Nat) (okc : List Nat → Bool), PrgAt K H L n1 e1 e2 ∧ PF n1 e1 e2 d1 m1 d2 okc ∧ vs = [.ref L] ∧
  (okc (List.range (spots nm0 e2 0).length) = true → ∀ (p sc sc2 : Addr) (H' : Hp), Same H H' → H' p = some (.lst [.ref sc, .ref sc2]) → Kn1 K H' sc2 (d2.sub (nS none)) → Q (.ref p) H') ∧ (okc (List.range (spots nm0 e2 0).length) = false → ∀ H', Same H H' → E (.ref CN) none H')
def sp_hold (K : PySem.W.Frag) : Sp := fun vs H Q _ => ∃ (L Lc : Addr) (n1 : Str) (e1 e2 : Ex) (d1 d2 : Kd) (m1 : Option Nat) (okc : List Nat → Bool) (ch : List Nat), PrgAt K H L n1 e1 e2 ∧ PF n1 e1 e2 d1 m1 d2 okc ∧ vs = [.ref L, .int 1, .ref Lc] ∧ H Lc = some (.lst (inat ch)) ∧ ch.Sublist (List.range (spots nm0 e2 0).length) ∧
  ∀ H', Same H H' → Q (.bl (okc ch)) H'
/-- what stays when all that can be left out is left out -/
def lcStep (okc : List Nat → Bool) (stay : List Nat) (k : Nat) : List Nat := if okc (stay.filter fun j => decide (j ≠ k)) then stay else stay.filter fun j => decide (j ≠ k)
def lcF (okc : List Nat → Bool) (n : Nat) : List Nat := (List.range n).reverse.foldl (lcStep okc) (List.range n)
def sp_least_clash (K : PySem.W.Frag) (CF : Addr) : Sp := fun vs H Q _ => ∃ (fa dkn Ls La : Addr) (own : Str) (n : Nat) (sp : List Nat) (as : List Ask) (okc : List Nat → Bool), vs = [.ref fa] ∧ FA K CF H fa dkn Ls La (fun _ => False) own n sp as ∧ sp.length ≤ 10000 ∧ (∀ ch, ch.Sublist (List.range sp.length) → Solv as ch (okc ch)) ∧
  ∀ p H', Same H H' → H' p = some (.lst (inat (lcF okc sp.length))) → Q (.ref p) H'
def sp_clash (K : PySem.W.Frag) : Sp := fun vs H Q _ => ∃ (L : Addr) (n1 : Str) (e1 e2 : Ex) (d1 d2 : Kd) (m1 : Option Nat) (okc : List Nat → Bool), PrgAt K H L n1 e1 e2 ∧ PF n1 e1 e2 d1 m1 d2 okc ∧ vs = [.ref L] ∧
  (okc (List.range (spots nm0 e2 0).length) = true → ∀ H', Same H H' → Q .non H') ∧
  (okc (List.range (spots nm0 e2 0).length) = false → ∀ (p q : Addr) (H' : Hp), Same H H' → H' p = some (.tup [.str "main", .ref q]) → H' q = some (.lst (inat (lcF okc (spots nm0 e2 0).length))) → Q (.ref p) H')
section
variable {P : Program} {wd : World} {K : PySem.W.Frag} {mg : Str → Option Value} {base : Heap} {C CN CW : Addr}
theorem ok_least_clash (D : Dfn K mg "least_clash" s_least_clash ["finder"]) (T0 : Txt K mg) (c_all_spots : Cal P wd K mg base CX0 1 "all_spots" ["finder"] (sp_all_spots K C)) (c_does_hold : Cal P wd K mg base CX0 18 "does_hold" ["finder", "chosen"] (sp_does_hold K C)) :
    Cal P wd K mg base CX0 19 "least_clash" ["finder"] (sp_least_clash K C) := by
  have S := sc_least_clash
  refine cal_of D S (fun vs H Q E h => ?_) (fun f cdv A outer s H vs Q E hr h => ?_)
  · obtain ⟨fa, dkn, Ls, La, own, n, sp, as, okc, rfl, _⟩ := h
    rfl
  obtain ⟨fa, dkn, Ls, La, own, n, sp, as, okc, rfl, W, hl, hs, q⟩ := h
  refine ⟨_, (pss_cons (ps_set (i := 1) S.nd rfl (Or.inl rfl) (pe_cal c_all_spots (hr.mono (by decide)) pass0 (pa_cons (pv 0) pa_nil)))
    (pss_cons (ps_for PassesOwn.never rfl (pi_reversed rfl T0.reversed (pa_cons (pe_cal c_all_spots (hr.mono (by decide)) pass0 (pa_cons (pv 0) pa_nil)) pa_nil)) (pg_name (i := 2) S.nd rfl (Or.inr rfl))
      (pss_cons (ps_setLc (i := 3) (own := [("spot", 4)]) rfl S.nd rfl rfl (sw_true rfl rfl rfl (by decide +kernel)) (pi_list (pv 1)) (blkOk_by (own := [("spot", 4)]) (N := ["finder", "stay", "k", "fewer", "spot"]) (sc := defScope s_least_clash) (by decide +kernel)) (fun _ _ _ _ _ => (pg_name (i := 4) S.nd rfl (Or.inl rfl))) (fun _ _ _ _ _ => (pts_one (pt_cmpR op_ne (pv 4) (pv 2) (nomark _)))) (fun _ _ _ _ _ => (pv 4)))
      (pss_one (ps_if (pt_not (pt_val (pe_cal c_does_hold hr pass0 (pa_cons (pv 0) (pa_cons (pv 3) pa_nil)))))
        (pss_one (ps_set (i := 1) S.nd rfl (Or.inl rfl) (pv 3)))
        pss_nil))))
    (pss_one (ps_ret (pv 1))))), ?_⟩
  have ll := W.ll
  refine ⟨_, rfl, fa, dkn, Ls, La, own, n, sp, as, rfl, W, hl, fun L0 H1 s1 n1 h1 => ?_⟩
  refine ⟨_, rfl, fa, dkn, Ls, La, own, n, sp, as, rfl, W.same s1, hl, fun L1 H2 s2 n2 h2 => ?_⟩
  have s12 := s1.trans s2
  have hlen : (inat (List.range sp.length)).length = sp.length := by simp [inat]
  refine ⟨L1, _, rfl, .of h2, for_it (walk_rev (K := K) (a := L1) (xs := inat (List.range sp.length))) (fun i σ G => ∃ (Lx : Addr) (x y z : Option V) (stay : List Nat), σ = [some (.ref fa), some (.ref Lx), x, y, z] ∧ Same H2 G ∧ G Lx = some (.lst (inat stay)) ∧ stay.Sublist (List.range sp.length) ∧ stay = ((List.range sp.length).reverse.take i).foldl (lcStep okc) (List.range sp.length))
    ⟨L0, none, none, none, List.range sp.length, rfl, .refl _, s2 _ _ h1, List.Sublist.refl _, rfl⟩ (fun i σ G _ ⟨_, _, _, _, _, _, s, _⟩ => .of (s _ _ h2)) ?_ ?_⟩
  · rintro i x σ G0 G hi ⟨Lx, x1, y1, z1, stay, rfl, sG, gx, sub, es⟩ ⟨rfl, hx⟩
    rw [hlen] at hi hx
    rw [inat, List.getElem?_map] at hx
    have hr : (List.range sp.length)[sp.length - 1 - i]? = some (sp.length - 1 - i) := List.getElem?_range (by omega)
    rw [hr] at hx
    cases hx
    have hrev : (List.range sp.length).reverse[i]? = some (sp.length - 1 - i) := by
      rw [List.getElem?_reverse (by simpa using hi), List.length_range]
      exact hr
    refine ⟨_, rfl, Lx, rfl, ⟨_, .of gx⟩, fun D nD => ?_⟩
    refine lc_list (K := K) (a := Lx) (xs := inat stay) (fun j G' => Same G G' ∧ G' D = some (.lst (inat ((stay.take j).filter fun j => decide (j ≠ sp.length - 1 - i))))) ⟨keep_new (S := No) nD |>.toSame, upd_same⟩ (fun j G' _ ⟨s, _⟩ => .of (s _ _ gx)) ?_ ?_
    · rintro j x G' hj ⟨s', gD⟩
      rw [inat, List.getElem?_map] at hj
      cases hk : stay[j]? with
      | none => rw [hk] at hj; cases hj
      | some k =>
        rw [hk] at hj
        cases hj
        refine ⟨rfl, ?_⟩
        have tks : stay.take (j + 1) = stay.take j ++ [k] := take_snoc hk
        refine ⟨_, rfl, _, rfl, rfl, _, rfl, ?_⟩
        by_cases hkm : k = sp.length - 1 - i
        · have e1 : decide (V.int (k : Int) = V.int ((sp.length - 1 - i : Nat) : Int)) = true := decide_eq_true (by rw [hkm])
          rw [e1]
          refine iteF ⟨s', ?_⟩
          rw [tks, List.filter_append]
          simpa [hkm] using gD
        · have e1 : decide (V.int (k : Int) = V.int ((sp.length - 1 - i : Nat) : Int)) = false := decide_eq_false fun z => hkm (by have := V.int.inj z; omega)
          rw [e1]
          have hjl := (List.getElem?_eq_some_iff.mp hk).1
          have hsl := sub.length_le
          rw [List.length_range] at hsl
          have fl : ((stay.take j).filter fun j => decide (j ≠ sp.length - 1 - i)).length ≤ stay.length := Nat.le_trans (List.length_filter_le _ _) (by rw [List.length_take]; omega)
          refine iteT ⟨_, rfl, _, gD, sz_lt (by rw [inat, List.length_map]; omega), ?_⟩
          refine mutG gD rfl fun G2 k2 g2 => ⟨same_over s' k2 nD, ?_⟩
          rw [tks, List.filter_append]
          have f1 : [k].filter (fun j => decide (j ≠ sp.length - 1 - i)) = [k] := by simp [hkm]
          rw [f1, g2]
          simp [inat]
    · rintro G' ⟨s', gD⟩
      have hln : (inat stay).length = stay.length := by simp [inat]
      rw [hln, List.take_length] at gD
      have sub2 : (stay.filter fun j => decide (j ≠ sp.length - 1 - i)).Sublist (List.range sp.length) := (List.filter_sublist).trans sub
      have fold : ∀ y, y = lcStep okc stay (sp.length - 1 - i) → y = ((List.range sp.length).reverse.take (i + 1)).foldl (lcStep okc) (List.range sp.length) := fun y e => by
        rw [take_snoc hrev, List.foldl_append, e, ← es]
        rfl
      refine ⟨_, rfl, _, rfl, fa, dkn, Ls, La, D, own, n, sp, as, _, _, rfl, W.same (s12.trans (sG.trans s')), gD, (fun k hk => ?_), hs _ sub2, fun H6 s6 => ?_⟩
      · have := List.mem_range.mp (sub2.subset hk)
        omega
      cases hok : okc (stay.filter fun j => decide (j ≠ sp.length - 1 - i)) with
      | true =>
        refine ⟨true, rfl, iteF ?_⟩
        refine ⟨Lx, _, _, _, stay, rfl, sG.trans (s'.trans s6), s6 _ _ (s' _ _ gx), sub, fold _ ?_⟩
        unfold lcStep
        rw [hok]
        rfl
      | false =>
        refine ⟨false, rfl, iteT ⟨_, rfl, ?_⟩⟩
        refine ⟨D, _, _, _, _, rfl, sG.trans (s'.trans s6), s6 _ _ gD, sub2, fold _ ?_⟩
        unfold lcStep
        rw [hok]
        rfl
  · rintro σ G ⟨Lx, x1, y1, z1, stay, rfl, sG, gx, sub, es⟩
    refine ⟨_, rfl, q Lx G (s12.trans sG) ?_⟩
    rw [hlen] at es
    have : (List.range sp.length).reverse.take sp.length = (List.range sp.length).reverse := List.take_of_length_le (by simp)
    rw [this] at es
    rw [gx, es]
    rfl
end
end Fw
/-! Fw22: known_above, schemes, hold, clash. -/
namespace Fw
open PySem PySem.Spec PyProof.Rows L2
section
variable {P : Program} {wd : World} {K : PySem.W.Frag} {mg : Str → Option Value} {base : Heap} {C CN CW : Addr}
theorem ks_of {H : Hp} {p sc : Addr} {n1 : Str} {d : Kd} (e : H p = some (.dK [(Sum.inr n1, .ref sc)])) (h : Kn1 K H sc d) (ok : ScOk d) : KsAt K (fun _ => False) H p n1 d := by
  obtain ⟨u, ll, a, b, c⟩ := h
  exact ⟨_, sc, ll, u, e, valV_of_mem (by simp) List.mem_cons_self, a, b, c, id, id, ok⟩
theorem put2 {n1 : Str} (ne : n1 ≠ "main") (a b : V) : putK ([(Sum.inr n1, a)] : KVs) (Sum.inr "main") b = [(Sum.inr n1, a), (Sum.inr "main", b)] := by
  rw [putK_new]
  · rfl
  · cases q : valV ([(Sum.inr n1, a)] : KVs) (Sum.inr "main" : L2.Key) with
    | none => rfl
    | some v =>
      have := valV_mem q
      rw [List.mem_singleton] at this
      exact absurd (Sum.inr.inj (Prod.mk.inj this).1).symm ne
theorem ok_known_above (D : Dfn K mg "known_above" s_known_above ["program", "many"]) (T : TF K mg C) (c_looked_through : Cal P wd K mg base CX0 53 "looked_through" ["one", "known"] (sp_looked_through K C 14)) (c_kinds_found : Cal P wd K mg base (L2.CX P wd) 18 "kinds_found" ["finder"] (sp_kinds_found K C CN))
    (c_named : Cal P wd K mg base CX0 9 "named" ["told", "lacks"] (sp_named K)) : Cal P wd K mg base (L2.CX P wd) 54 "known_above" ["program", "many"] (sp_known_above K CN) := by
  have S := sc_known_above
  refine cal_ofX D S (fun vs H Q E h => ?_) (fun f cdv A outer s H vs Q E hr h => ?_)
  · obtain ⟨L, n1, e1, e2, d1, d2, m1, okc, _, _, ⟨rfl, _⟩ | ⟨rfl, _⟩⟩ := h
    · rfl
    · rfl
  obtain ⟨L, n1, e1, e2, d1, d2, m1, okc, prg, pf, hq⟩ := h
  have hu := hu_of hr
  have tk : Takes (cxOf (L2.CX P wd) P wd K mg base ["program", "many", "known", "one", "kinds", "lacks"] "known_above" (defScope s_known_above) f cdv A outer s H E) (fun cls d _ H' => E cls d H') := takes_of rfl rfl rfl rfl
  refine ⟨_, (pss_cons (ps_set (i := 2) S.nd rfl (Or.inl rfl) pe_dnewK)
    (pss_cons (ps_for (passes_of rfl) rfl (pi_list (pe_slice sl_list (pv 0) po_none (po_some (pv 1)))) (pg_name (i := 3) S.nd rfl (Or.inl rfl))
      (pss_cons (ps_asg (pe_calS c_kinds_found (hr.mono (by decide)) tk (pa_cons (pe_cal c_looked_through hr pass0 (pa_cons (pv 3) (pa_cons (pv 2) pa_nil))) pa_nil)) (pg_tup rfl (pgs_cons (pg_name (i := 4) S.nd rfl (Or.inl rfl)) (pgs_cons (pg_name (i := 5) S.nd rfl (Or.inl rfl)) pgs_nil))))
      (pss_one (ps_dput hu (pv 2) (pe_ix ix_tup (pv 3) pe_int (fun _ _ => rfl)) (pe_cal c_named (hr.mono (by decide)) pass0 (pa_cons (pe_ix ix_list (pv 4) pe_int (fun _ _ => rfl)) (pa_cons (pv 5) pa_nil))) rfl))))
    (pss_one (ps_ret (pv 2))))), ?_⟩
  obtain ⟨o1, o2, v1, v2, hL, ho1, ho2, hx1, hx2⟩ := prg
  -- the two cases by how many defs are looked at
  obtain ⟨mn, hv, hmn, hq2⟩ : ∃ mn : Nat, vs = [.ref L, .int (mn : Int)] ∧ (mn = 1 ∨ mn = 2) ∧
      (mn = 1 → ∀ (p sc : Addr) (H' : Hp), Same H H' → H' p = some (.dK [(Sum.inr n1, .ref sc)]) → Kn1 K H' sc (d1.sub (nS m1)) → Q (.ref p) H') ∧
      (mn = 2 → (okc (List.range (spots nm0 e2 0).length) = true → ∀ (p sc sc2 : Addr) (H' : Hp), Same H H' → H' p = some (.dK [(Sum.inr n1, .ref sc), (Sum.inr "main", .ref sc2)]) → Kn1 K H' sc2 (d2.sub (nS none)) → Q (.ref p) H') ∧ (okc (List.range (spots nm0 e2 0).length) = false → ∀ H', Same H H' → E (.ref CN) none H')) := by
    rcases hq with ⟨rfl, q⟩ | ⟨rfl, q⟩
    · exact ⟨1, rfl, .inl rfl, (fun _ => q), (fun z => by cases z)⟩
    · exact ⟨2, rfl, .inr rfl, (fun z => by cases z), fun _ => q⟩
  subst hv
  obtain ⟨q1, q2⟩ := hq2
  obtain ⟨r1, hr1, lr1⟩ := pf.hd1
  obtain ⟨r2, hr2, lr2⟩ := pf.hd2
  intro p np
  refine newG np fun H1 s1 h1 => ?_
  refine ⟨_, rfl, _, rfl, _, rfl, L, _, rfl, .of (s1 _ _ hL), fun q0 nq0 => ?_⟩
  have cut : cutV [V.ref o1, V.ref o2] none (some (mn : Int)) = [V.ref o1, V.ref o2].take mn := by
    rcases hmn with rfl | rfl <;> rfl
  rw [cut]
  refine newG nq0 fun H2 s2 h2 => ?_
  have s12 := s1.trans s2
  have hlt : ([V.ref o1, V.ref o2].take mn).length = mn := by rcases hmn with rfl | rfl <;> rfl
  refine ⟨q0, rfl, ⟨_, .of h2⟩, for_list (K := K) (a := q0) (xs := [V.ref o1, V.ref o2].take mn) (fun i σ G => ∃ (x y z : Option V), σ = [some (.ref L), some (.int (mn : Int)), some (.ref p), x, y, z] ∧ Same H G ∧ G q0 = some (.lst ([V.ref o1, V.ref o2].take mn)) ∧
      ((i = 0 ∧ G p = some (.dK [])) ∨ (i = 1 ∧ ∃ sc, G p = some (.dK [(Sum.inr n1, .ref sc)]) ∧ Kn1 K G sc (d1.sub (nS m1))) ∨
       (i = 2 ∧ okc (List.range (spots nm0 e2 0).length) = true ∧ ∃ sc sc2, G p = some (.dK [(Sum.inr n1, .ref sc), (Sum.inr "main", .ref sc2)]) ∧ Kn1 K G sc2 (d2.sub (nS none)))))
    ⟨none, none, none, rfl, s12, h2, .inl ⟨rfl, s2 _ _ h1⟩⟩ (fun i σ G _ ⟨_, _, _, _, _, h, _⟩ => .of h) ?_ ?_⟩
  · rintro i x σ G hi ⟨x1, y1, z1, rfl, sG, gq, hst⟩
    have npH : H p = none := np
    have nqp : q0 ≠ p := fun z => by rw [z, h1] at nq0; cases nq0
    rcases hst with ⟨rfl, gp⟩ | ⟨rfl, sc, gp, kn⟩ | ⟨rfl, _⟩
    · have hx : x = .ref o1 := by rcases hmn with rfl | rfl <;> (cases hi; rfl)
      subst hx
      have d90 := pf.dp1
      refine ⟨_, rfl, _, rfl, o1, p, n1, v1, e1, .num, [], rfl, sqT_keep (same_keep sG) ho1, hx1.keep (same_keep sG), pf.dp1, by omega, gp, pf.wf1.imp fun _ z => z.elim, by rw [hr1, List.length_cons]; omega, fun fa Ls La G1 t1 W1 => ?_⟩
      rw [hr1] at W1
      refine ⟨fa, p, Ls, La, n1, _, r1, _, rfl, W1, lr1, .inl ⟨d1, pf.sol1 .num, fun pp ks q v0 vs G2 t2 g1 g2 iv g3 => ?_⟩⟩
      refine ⟨pp, _, rfl, .of g1, rfl, _, _, rfl, _, _, rfl, rfl, ?_⟩
      refine ⟨_, rfl, ks, _, _, v0, rfl, rfl, .of g2, atI_nat rfl, _, rfl, v0, q, d1, m1, rfl, iv, g3, pf.nm1, fun p3 l3 v3 G3 t3 k1 k2 k3 => ?_⟩
      have t13 := t1.trans (t2.trans t3)
      have sG3 := sG.trans t13
      refine ⟨_, rfl, _, rfl, o1, _, _, _, rfl, rfl, sqT_keep (same_keep sG3) ho1, atI_nat rfl, p, _, rfl, DPut.k (k := Sum.inr n1) (t13 _ _ gp) (sz_lt (by show 0 ≤ 100000; decide)), ?_⟩
      refine mutG (t13 _ _ gp) rfl fun G4 k4 g4 => ?_
      have kn : Kn1 K G3 p3 (d1.sub (nS m1)) := ⟨v3, l3, .of k1, k2, k3⟩
      exact ⟨_, _, _, rfl, same_over sG3 k4 npH, k4.at (t13 _ _ gq) nqp, .inr (.inl ⟨rfl, p3, g4, kn.off k4 (t13 _ _ gp)⟩)⟩
    · rcases hmn with rfl | rfl
      · cases hi
      have hx : x = .ref o2 := by cases hi; rfl
      subst hx
      obtain ⟨q3, q4⟩ := q2 rfl
      have d90 := pf.dp2
      have ks := ks_of gp kn pf.sc1
      refine ⟨_, rfl, _, rfl, o2, p, "main", v2, e2, d1.sub (nS m1), _, rfl, sqT_keep (same_keep sG) ho2, hx2.keep (same_keep sG), pf.dp2, by omega, gp, pf.wf2.imp fun y z => (by rw [z]; exact ks), by rw [hr2, List.length_cons]; omega, fun fa Ls La G1 t1 W1 => ?_⟩
      have las := W1.ll
      rw [hr2] at W1
      cases hok : okc (List.range (spots nm0 e2 0).length) with
      | true =>
        obtain ⟨sf, nmo⟩ := pf.all hok
        refine ⟨fa, p, Ls, La, "main", _, r2, _, rfl, W1, lr2, .inl ⟨d2, sf, fun pp ks q v0 vs G2 t2 g1 g2 iv g3 => ?_⟩⟩
        refine ⟨pp, _, rfl, .of g1, rfl, _, _, rfl, _, _, rfl, rfl, ?_⟩
        refine ⟨_, rfl, ks, _, _, v0, rfl, rfl, .of g2, atI_nat rfl, _, rfl, v0, q, d2, none, rfl, iv, g3, nmo, fun p3 l3 v3 G3 t3 k1 k2 k3 => ?_⟩
        have t13 := t1.trans (t2.trans t3)
        have sG3 := sG.trans t13
        refine ⟨_, rfl, _, rfl, o2, _, _, _, rfl, rfl, sqT_keep (same_keep sG3) ho2, atI_nat rfl, p, _, rfl, DPut.k (k := Sum.inr "main") (t13 _ _ gp) (sz_lt (by show 1 ≤ 100000; decide)), ?_⟩
        rw [put2 pf.ne]
        refine mutG (t13 _ _ gp) rfl fun G4 k4 g4 => ?_
        have kn2 : Kn1 K G3 p3 (d2.sub (nS none)) := ⟨v3, l3, .of k1, k2, k3⟩
        exact ⟨_, _, _, rfl, same_over sG3 k4 npH, k4.at (t13 _ _ gq) nqp, .inr (.inr ⟨rfl, (by first | exact hok | rfl), sc, p3, g4, kn2.off k4 (t13 _ _ gp)⟩)⟩
      | false =>
        have sv := pf.part _ (List.Sublist.refl _)
        rw [hok, ← las] at sv
        exact ⟨fa, p, Ls, La, "main", _, r2, _, rfl, W1, lr2, .inr ⟨sv, fun H' s' => q4 hok H' (sG.trans (t1.trans s'))⟩⟩
    · rcases hmn with rfl | rfl <;> cases hi
  · rintro σ G ⟨x1, y1, z1, rfl, sG, gq, hst⟩
    rw [hlt] at hst
    rcases hst with ⟨h, gp⟩ | ⟨h, sc, gp, kn⟩ | ⟨h, hok, sc, sc2, gp, kn⟩
    · rcases hmn with z | z <;> (rw [z] at h; cases h)
    · exact ⟨_, rfl, q1 h p sc G sG gp kn⟩
    · exact ⟨_, rfl, (q2 h).1 hok p sc sc2 G sG gp kn⟩
theorem ok_schemes (D : Dfn K mg "schemes" s_schemes ["program"]) (T0 : Txt K mg) (c_known_above : Cal P wd K mg base (L2.CX P wd) 54 "known_above" ["program", "many"] (sp_known_above K CN)) : Cal P wd K mg base (L2.CX P wd) 55 "schemes" ["program"] (sp_schemes K CN) := by
  have S := sc_schemes
  refine cal_ofX D S (fun vs H Q E h => ?_) (fun f cdv A outer s H vs Q E hr h => ?_)
  · obtain ⟨L, n1, e1, e2, d1, d2, m1, okc, _, _, rfl, _⟩ := h
    rfl
  obtain ⟨L, n1, e1, e2, d1, d2, m1, okc, prg, pf, rfl, q1, q2⟩ := h
  have tk : Takes (cxOf (L2.CX P wd) P wd K mg base ["program"] "schemes" (defScope s_schemes) f cdv A outer s H E) (fun cls d _ H' => E cls d H') := takes_of rfl rfl rfl rfl
  refine ⟨_, (pss_one (ps_ret (pe_listVals rfl T0.list (pe_calS c_known_above hr tk (pa_cons (pv 0) (pa_cons (pe_callB call_len_seq rfl T0.len PySem.boot_len (pa_cons (pv 0) pa_nil)) pa_nil)))))), ?_⟩
  have prg' := prg
  obtain ⟨o1, o2, v1, v2, hL, _⟩ := prg'
  refine ⟨_, rfl, _, rfl, L, _, rfl, .inl (.of hL), L, n1, e1, e2, d1, d2, m1, okc, prg, pf, .inr ⟨rfl, fun hok p sc sc2 H' s' g kn => ?_, q2⟩⟩
  refine ⟨p, _, rfl, g, fun p2 n2 => ?_⟩
  refine newG n2 fun H2 s2 g2 => ?_
  exact q1 hok p2 sc sc2 H2 (s'.trans s2) g2 (kn.same s2)
theorem ok_hold (D : Dfn K mg "hold" s_hold ["program", "k", "chosen"]) (T : TF K mg C) (c_looked_through : Cal P wd K mg base CX0 53 "looked_through" ["one", "known"] (sp_looked_through K C 14)) (c_does_hold : Cal P wd K mg base CX0 18 "does_hold" ["finder", "chosen"] (sp_does_hold K C))
    (c_known_above : Cal P wd K mg base (L2.CX P wd) 54 "known_above" ["program", "many"] (sp_known_above K CN)) : Cal P wd K mg base CX0 55 "hold" ["program", "k", "chosen"] (sp_hold K) := by
  have S := sc_hold
  refine cal_of D S (fun vs H Q E h => ?_) (fun f cdv A outer s H vs Q E hr h => ?_)
  · obtain ⟨L, Lc, n1, e1, e2, d1, d2, m1, okc, ch, _, _, rfl, _⟩ := h
    rfl
  obtain ⟨L, Lc, n1, e1, e2, d1, d2, m1, okc, ch, prg, pf, rfl, hc, sub, q⟩ := h
  refine ⟨_, (pss_one (ps_ret (pe_cal c_does_hold (hr.mono (by decide)) pass0 (pa_cons (pe_cal c_looked_through (hr.mono (by decide)) pass0 (pa_cons (pe_ix ix_list (pv 0) (pv 1) (fun _ _ => rfl)) (pa_cons (pe_cal c_known_above hr passL (pa_cons (pv 0) (pa_cons (pv 1) pa_nil))) pa_nil))) (pa_cons (pv 2) pa_nil))))), ?_⟩
  have prg' := prg
  obtain ⟨o1, o2, v1, v2, hL, ho1, ho2, hx1, hx2⟩ := prg'
  obtain ⟨r2, hr2, lr2⟩ := pf.hd2
  have d90 := pf.dp2
  refine ⟨_, rfl, _, rfl, L, _, _, .ref o2, rfl, rfl, .of hL, atI_nat (j := 1) rfl, _, rfl, _, rfl, L, n1, e1, e2, d1, d2, m1, okc, prg, pf, .inl ⟨rfl, fun p sc H1 s1 gp kn => ?_⟩⟩
  refine ⟨o2, p, "main", v2, e2, d1.sub (nS m1), _, rfl, sqT_keep (same_keep s1) ho2, hx2.keep (same_keep s1), pf.dp2, by omega, gp, pf.wf2.imp fun y z => (by rw [z]; exact ks_of gp kn pf.sc1), by rw [hr2, List.length_cons]; omega, fun fa Ls La G1 t1 W1 => ?_⟩
  refine ⟨_, rfl, fa, p, Ls, La, Lc, "main", _, _, _, ch, okc ch, rfl, W1, t1 _ _ (s1 _ _ hc), fun k hk => ?_, pf.part ch sub, fun H' s' => q H' (s1.trans (t1.trans s'))⟩
  rw [W1.ll]
  exact List.mem_range.mp (sub.subset hk)
theorem ok_clash (D : Dfn K mg "clash" s_clash ["program"]) (T : TF K mg C) (c_looked_through : Cal P wd K mg base CX0 53 "looked_through" ["one", "known"] (sp_looked_through K C 14)) (c_kinds_found : Cal P wd K mg base (L2.CX P wd) 18 "kinds_found" ["finder"] (sp_kinds_found K C CN))
    (c_named : Cal P wd K mg base CX0 9 "named" ["told", "lacks"] (sp_named K)) (c_does_hold : Cal P wd K mg base CX0 18 "does_hold" ["finder", "chosen"] (sp_does_hold K C)) (c_all_spots : Cal P wd K mg base CX0 1 "all_spots" ["finder"] (sp_all_spots K C)) (c_least_clash : Cal P wd K mg base CX0 19 "least_clash" ["finder"] (sp_least_clash K C)) :
    Cal P wd K mg base CX0 54 "clash" ["program"] (sp_clash K) := by
  have S := sc_clash
  refine cal_of D S (fun vs H Q E h => ?_) (fun f cdv A outer s H vs Q E hr h => ?_)
  · obtain ⟨L, n1, e1, e2, d1, d2, m1, okc, _, _, rfl, _⟩ := h
    rfl
  obtain ⟨L, n1, e1, e2, d1, d2, m1, okc, prg, pf, rfl, q1, q2⟩ := h
  have hu := hu_of hr
  refine ⟨_, (pss_cons (ps_set (i := 1) S.nd rfl (Or.inl rfl) pe_dnewK)
    (pss_cons (ps_for PassesOwn.never rfl (pi_list (pv 0)) (pg_name (i := 2) S.nd rfl (Or.inl rfl))
      (pss_cons (ps_set (i := 3) S.nd rfl (Or.inl rfl) (pe_cal c_looked_through hr pass0 (pa_cons (pv 2) (pa_cons (pv 1) pa_nil))))
      (pss_cons (ps_if (pt_not (pt_val (pe_cal c_does_hold (hr.mono (by decide)) pass0 (pa_cons (pv 3) (pa_cons (pe_cal c_all_spots (hr.mono (by decide)) pass0 (pa_cons (pv 3) pa_nil)) pa_nil)))))
        (pss_one (ps_ret (pe_tup (pa_cons (pe_ix ix_tup (pv 2) pe_int (fun _ _ => rfl)) (pa_cons (pe_cal c_least_clash (hr.mono (by decide)) pass0 (pa_cons (pv 3) pa_nil)) pa_nil)))))
        pss_nil)
      (pss_cons (ps_asg (pe_cal c_kinds_found (hr.mono (by decide)) passL (pa_cons (pv 3) pa_nil)) (pg_tup rfl (pgs_cons (pg_name (i := 4) S.nd rfl (Or.inl rfl)) (pgs_cons (pg_name (i := 5) S.nd rfl (Or.inl rfl)) pgs_nil))))
      (pss_one (ps_dput hu (pv 1) (pe_ix ix_tup (pv 2) pe_int (fun _ _ => rfl)) (pe_cal c_named (hr.mono (by decide)) pass0 (pa_cons (pe_ix ix_list (pv 4) pe_int (fun _ _ => rfl)) (pa_cons (pv 5) pa_nil))) rfl))))))
    (pss_one (ps_ret pe_non)))), ?_⟩
  obtain ⟨o1, o2, v1, v2, hL, ho1, ho2, hx1, hx2⟩ := prg
  obtain ⟨r1, hr1, lr1⟩ := pf.hd1
  obtain ⟨r2, hr2, lr2⟩ := pf.hd2
  intro p np
  refine newG np fun H1 s1 h1 => ?_
  refine ⟨_, rfl, L, rfl, ⟨_, .of (s1 _ _ hL)⟩, for_list (K := K) (a := L) (xs := [V.ref o1, V.ref o2]) (fun i σ G => ∃ (x y z t : Option V), σ = [some (.ref L), some (.ref p), x, y, z, t] ∧ Same H G ∧
      ((i = 0 ∧ G p = some (.dK [])) ∨ (i = 1 ∧ ∃ sc, G p = some (.dK [(Sum.inr n1, .ref sc)]) ∧ Kn1 K G sc (d1.sub (nS m1))) ∨ (i = 2 ∧ okc (List.range (spots nm0 e2 0).length) = true)))
    ⟨none, none, none, none, rfl, s1, .inl ⟨rfl, h1⟩⟩ (fun i σ G _ ⟨_, _, _, _, _, s, _⟩ => .of (s _ _ hL)) ?_ ?_⟩
  · rintro i x σ G hi ⟨x1, y1, z1, t0, rfl, sG, hst⟩
    rcases hst with ⟨rfl, gp⟩ | ⟨rfl, sc, gp, kn⟩ | ⟨rfl, _⟩
    · have hx : x = .ref o1 := by cases hi; rfl
      subst hx
      have d90 := pf.dp1
      refine ⟨_, rfl, _, rfl, o1, p, n1, v1, e1, .num, [], rfl, sqT_keep (same_keep sG) ho1, hx1.keep (same_keep sG), pf.dp1, by omega, gp, pf.wf1.imp fun _ z => z.elim, by rw [hr1, List.length_cons]; omega, fun fa Ls La G1 t1 W1 => ?_⟩
      have las := W1.ll
      refine ⟨_, rfl, _, rfl, fa, p, Ls, La, n1, _, _, _, rfl, W1, by rw [hr1, List.length_cons]; omega, fun Lc G2 t2 n2 g2 => ?_⟩
      have sf := pf.sol1 .num
      have sv := sf.solv
      rw [las] at sv
      refine ⟨fa, p, Ls, La, Lc, n1, _, _, _, _, true, rfl, W1.same t2, g2, fun k hk => by rw [las]; exact List.mem_range.mp hk, sv, fun G3 t3 => ?_⟩
      refine ⟨true, rfl, iteF ?_⟩
      have W3 := (W1.same t2).same t3
      rw [hr1] at W3
      refine ⟨_, rfl, fa, p, Ls, La, n1, _, r1, _, rfl, W3, lr1, .inl ⟨d1, sf, fun pp ks q v0 vs G4 t4 g1 g2 iv g3 => ?_⟩⟩
      refine ⟨pp, _, rfl, .of g1, rfl, _, _, rfl, _, _, rfl, rfl, ?_⟩
      refine ⟨_, rfl, ks, _, _, v0, rfl, rfl, .of g2, atI_nat rfl, _, rfl, v0, q, d1, m1, rfl, iv, g3, pf.nm1, fun p3 l3 v3 G5 t5 k1 k2 k3 => ?_⟩
      have t15 := t1.trans (t2.trans (t3.trans (t4.trans t5)))
      have sG5 := sG.trans t15
      refine ⟨_, rfl, _, rfl, o1, _, _, _, rfl, rfl, sqT_keep (same_keep sG5) ho1, atI_nat rfl, p, _, rfl, DPut.k (k := Sum.inr n1) (t15 _ _ gp) (sz_lt (by show 0 ≤ 100000; decide)), ?_⟩
      refine mutG (t15 _ _ gp) rfl fun G6 k6 g6 => ?_
      have kn : Kn1 K G5 p3 (d1.sub (nS m1)) := ⟨v3, l3, .of k1, k2, k3⟩
      exact ⟨_, _, _, _, rfl, same_over sG5 k6 np, .inr (.inl ⟨rfl, p3, g6, kn.off k6 (t15 _ _ gp)⟩)⟩
    · have hx : x = .ref o2 := by cases hi; rfl
      subst hx
      have d90 := pf.dp2
      refine ⟨_, rfl, _, rfl, o2, p, "main", v2, e2, d1.sub (nS m1), _, rfl, sqT_keep (same_keep sG) ho2, hx2.keep (same_keep sG), pf.dp2, by omega, gp, pf.wf2.imp fun y z => (by rw [z]; exact ks_of gp kn pf.sc1), by rw [hr2, List.length_cons]; omega, fun fa Ls La G1 t1 W1 => ?_⟩
      have las := W1.ll
      refine ⟨_, rfl, _, rfl, fa, p, Ls, La, "main", _, _, _, rfl, W1, by rw [hr2, List.length_cons]; omega, fun Lc G2 t2 n2 g2 => ?_⟩
      have sv := pf.part _ (List.Sublist.refl _)
      refine ⟨fa, p, Ls, La, Lc, "main", _, _, _, _, _, rfl, W1.same t2, g2, fun k hk => by rw [las]; exact List.mem_range.mp hk, sv, fun G3 t3 => ?_⟩
      have W3 := (W1.same t2).same t3
      have t13 := t1.trans (t2.trans t3)
      cases hok : okc (List.range (spots nm0 e2 0).length) with
      | true =>
        obtain ⟨sf, nmo⟩ := pf.all hok
        refine ⟨true, rfl, iteF ?_⟩
        rw [hr2] at W3
        refine ⟨_, rfl, fa, p, Ls, La, "main", _, r2, _, rfl, W3, lr2, .inl ⟨d2, sf, fun pp ks q v0 vs G4 t4 g1 g2 iv g3 => ?_⟩⟩
        refine ⟨pp, _, rfl, .of g1, rfl, _, _, rfl, _, _, rfl, rfl, ?_⟩
        refine ⟨_, rfl, ks, _, _, v0, rfl, rfl, .of g2, atI_nat rfl, _, rfl, v0, q, d2, none, rfl, iv, g3, nmo, fun p3 l3 v3 G5 t5 k1 k2 k3 => ?_⟩
        have t15 := t13.trans (t4.trans t5)
        have sG5 := sG.trans t15
        refine ⟨_, rfl, _, rfl, o2, _, _, _, rfl, rfl, sqT_keep (same_keep sG5) ho2, atI_nat rfl, p, _, rfl, DPut.k (k := Sum.inr "main") (t15 _ _ gp) (sz_lt (by show 1 ≤ 100000; decide)), ?_⟩
        refine mutG (t15 _ _ gp) rfl fun G6 k6 g6 => ?_
        exact ⟨_, _, _, _, rfl, same_over sG5 k6 np, .inr (.inr ⟨rfl, (by first | exact hok | rfl)⟩)⟩
      | false =>
        refine ⟨false, rfl, iteT ?_⟩
        refine ⟨_, rfl, o2, _, _, _, rfl, rfl, sqT_keep (same_keep (sG.trans t13)) ho2, atI_nat rfl, _, rfl, fa, p, Ls, La, "main", _, _, _, okc, rfl, W3, by rw [hr2, List.length_cons]; omega, pf.part, fun q G4 t4 g4 => ?_⟩
        refine ⟨(by show 2 ≤ sizeLine; decide), newO (Q := fun p H' => Q (.ref p) H') fun p2 G5 n5 t5 g5 => ?_⟩
        exact q2 hok p2 q G5 (sG.trans (t13.trans (t4.trans t5))) g5 (t5 _ _ g4)
    · cases hi
  · rintro σ G ⟨x1, y1, z1, t0, rfl, sG, hst⟩
    rcases hst with ⟨h, _⟩ | ⟨h, _⟩ | ⟨_, hok⟩
    · cases h
    · cases h
    · exact q1 hok G sG
end
end Fw
/-! Fm1: plain: what comes to be known of a plain expression's places. -/
namespace Fw
open PySem PySem.Spec PyProof.Rows L2
def cnt : Ex → Nat
  | .wth _ e r => cnt e + cnt r + 2
  | .lam _ _ => 0
  | .app _ _ => 0
  | _ => 1
def sz : Ex → Nat
  | .wth _ e r => sz e + sz r + 1
  | .lam _ _ => 0
  | .app _ _ => 0
  | _ => 1
def isRec : Ex → Prop
  | .empty => True
  | .wth _ _ _ => True
  | _ => False
/-- plain: numbers, records, names bound to b -/
def Sm (nm : Nm) (b : Nat) : Ex → Prop
  | .num _ => True
  | .name x => nm x = some b
  | .empty => True
  | .wth _ e r => Sm nm b e ∧ Sm nm b r ∧ isRec r
  | _ => False
section
variable {nm : Nm} {b : Nat}
theorem nx_sm : ∀ {e : Ex} (n : Nat), Sm nm b e → nx nm e n = n + cnt e
  | .num _, _, _ => rfl
  | .name x, n, h => by
    have h : nm x = some b := h
    simp only [nx, h, cnt]
  | .empty, _, _ => rfl
  | .wth l e r, n, h => by
    simp only [nx, cnt, nx_sm (e := e) _ h.1, nx_sm (e := r) _ h.2.1]
    omega
  | .lam _ _, _, h => h.elim
  | .app _ _, _, h => h.elim
theorem spots_len : ∀ {e : Ex} (n : Nat), Sm nm b e → (spots nm e n).length = sz e
  | .num _, _, _ => rfl
  | .name x, n, h => rfl
  | .empty, _, _ => rfl
  | .wth l e r, n, h => by
    simp only [spots, sz, List.length_cons, List.length_append, spots_len (e := e) _ h.1, spots_len (e := r) _ h.2.1]
  | .lam _ _, _, h => h.elim
  | .app _ _, _, h => h.elim
theorem asks_len {sk : Kd} : ∀ {e : Ex} (n : Nat), Sm nm b e → (asks sk nm e n).length = sz e
  | .num _, _, _ => rfl
  | .name x, n, h => by
    have h : nm x = some b := h
    simp only [asks, h]
    rfl
  | .empty, _, _ => rfl
  | .wth l e r, n, h => by
    simp only [asks, sz, List.length_cons, List.length_append, asks_len (e := e) _ h.1, asks_len (e := r) _ h.2.1]
  | .lam _ _, _, h => h.elim
  | .app _ _, _, h => h.elim
theorem cnt_pos : ∀ {e : Ex}, Sm nm b e → 1 ≤ cnt e
  | .num _, _ => Nat.le_refl _
  | .name x, h => Nat.le_refl _
  | .empty, _ => Nat.le_refl _
  | .wth l e r, h => by simp only [cnt]; omega
  | .lam _ _, h => h.elim
  | .app _ _, h => h.elim
theorem asks_wth {sk : Kd} {l : Str} {e r : Ex} (n : Nat) (he : Sm nm b e) (hr : Sm nm b r) : asks sk nm (.wth l e r) n =
    ([(.var (n + 1 + cnt e), .rc [] (some (n + 1 + cnt e + cnt r))), (.var n, .rc [(l, .var (n + 1))] (some (n + 1 + cnt e + cnt r)))], [(n + 1 + cnt e + cnt r, l)]) :: (asks sk nm e (n + 1) ++ asks sk nm r (n + 1 + cnt e)) := by
  simp only [asks, nx_sm _ he, nx_sm _ hr]
end
/-! ### the chosen places' wants -/
def selP : List Ask → Nat → (Nat → Bool) → List (Kd × Kd)
  | [], _, _ => []
  | a :: r, p, sel => (if sel p then a.1 else []) ++ selP r (p + 1) sel
def selL : List Ask → Nat → (Nat → Bool) → List (Nat × Str)
  | [], _, _ => []
  | a :: r, p, sel => (if sel p then a.2 else []) ++ selL r (p + 1) sel
theorem selP_app (sel : Nat → Bool) : ∀ (a b : List Ask) (p : Nat), selP (a ++ b) p sel = selP a p sel ++ selP b (p + a.length) sel
  | [], b, p => rfl
  | x :: r, b, p => by
    simp only [List.cons_append, selP, selP_app sel r b (p + 1), List.length_cons, List.append_assoc]
    rw [show p + 1 + r.length = p + (r.length + 1) from by omega]
theorem selL_app (sel : Nat → Bool) : ∀ (a b : List Ask) (p : Nat), selL (a ++ b) p sel = selL a p sel ++ selL b (p + a.length) sel
  | [], b, p => rfl
  | x :: r, b, p => by
    simp only [List.cons_append, selL, selL_app sel r b (p + 1), List.length_cons, List.append_assoc]
    rw [show p + 1 + r.length = p + (r.length + 1) from by omega]
theorem selP_mem {sel : Nat → Bool} {q : Kd × Kd} : ∀ {as : List Ask} {p : Nat}, q ∈ selP as p sel → ∃ a ∈ as, q ∈ a.1
  | a :: r, p, h => by
    rcases List.mem_append.mp h with h | h
    · refine ⟨a, List.mem_cons_self, ?_⟩
      split at h
      · exact h
      · cases h
    · obtain ⟨a', h1, h2⟩ := selP_mem h
      exact ⟨a', List.mem_cons_of_mem _ h1, h2⟩
theorem selL_mem {sel : Nat → Bool} {q : Nat × Str} : ∀ {as : List Ask} {p : Nat}, q ∈ selL as p sel → ∃ a ∈ as, q ∈ a.2
  | a :: r, p, h => by
    rcases List.mem_append.mp h with h | h
    · refine ⟨a, List.mem_cons_self, ?_⟩
      split at h
      · exact h
      · cases h
    · obtain ⟨a', h1, h2⟩ := selL_mem h
      exact ⟨a', List.mem_cons_of_mem _ h1, h2⟩
theorem sub_filter {α : Type} [DecidableEq α] : ∀ {l ch : List α}, ch.Sublist l → l.Nodup → ch = l.filter fun x => decide (x ∈ ch)
  | _, _, .slnil, _ => rfl
  | _, _, .cons (l₁ := ch) (l₂ := l) x h, n => by
    have n' := List.nodup_cons.mp n
    have nx : x ∉ ch := fun z => n'.1 (h.subset z)
    rw [List.filter_cons]
    simp only [decide_eq_true_eq, nx, if_false]
    exact sub_filter h n'.2
  | _, _, .cons_cons (l₁ := ch) (l₂ := l) x h, n => by
    have n' := List.nodup_cons.mp n
    rw [List.filter_cons]
    simp only [List.mem_cons, true_or, decide_true, if_true]
    congr 1
    have ih := sub_filter h n'.2
    conv => lhs; rw [ih]
    refine List.filter_congr fun y hy => ?_
    have : y ≠ x := fun z => n'.1 (z ▸ hy)
    simp [this]
theorem flat_filter {α β : Type} (p : α → Bool) (f : α → List β) : ∀ l : List α, (l.filter p).flatMap f = l.flatMap fun x => if p x then f x else []
  | [] => rfl
  | x :: r => by
    rw [List.filter_cons]
    cases h : p x with
    | true => simp [flat_filter p f r, h]
    | false => simp [flat_filter p f r, h]
theorem selP_range (sel : Nat → Bool) : ∀ (as : List Ask) (p : Nat) (pre : List Ask), pre.length = p → ((List.range' p as.length).flatMap fun k => if sel k then ((pre ++ as).getD k ([], [])).1 else []) = selP as p sel
  | [], p, pre, _ => rfl
  | a :: r, p, pre, hp => by
    have ih := selP_range sel r (p + 1) (pre ++ [a]) (by rw [List.length_append, hp]; rfl)
    rw [List.length_cons, List.range'_succ, List.flatMap_cons]
    have g : (pre ++ a :: r).getD p ([], []) = a := by
      rw [List.getD_eq_getElem?_getD, List.getElem?_append_right (by omega), hp, Nat.sub_self]
      rfl
    rw [g]
    show _ = (if sel p then a.1 else []) ++ selP r (p + 1) sel
    rw [← ih, List.append_assoc]
    rfl
theorem selL_range (sel : Nat → Bool) : ∀ (as : List Ask) (p : Nat) (pre : List Ask), pre.length = p → ((List.range' p as.length).flatMap fun k => if sel k then ((pre ++ as).getD k ([], [])).2 else []) = selL as p sel
  | [], p, pre, _ => rfl
  | a :: r, p, pre, hp => by
    have ih := selL_range sel r (p + 1) (pre ++ [a]) (by rw [List.length_append, hp]; rfl)
    rw [List.length_cons, List.range'_succ, List.flatMap_cons]
    have g : (pre ++ a :: r).getD p ([], []) = a := by
      rw [List.getD_eq_getElem?_getD, List.getElem?_append_right (by omega), hp, Nat.sub_self]
      rfl
    rw [g]
    show _ = (if sel p then a.2 else []) ++ selL r (p + 1) sel
    rw [← ih, List.append_assoc]
    rfl
theorem prsOf_sel {as : List Ask} {ch : List Nat} (h : ch.Sublist (List.range as.length)) : prsOf as ch = selP as 0 fun k => decide (k ∈ ch) := by
  have e := sub_filter h List.nodup_range
  unfold prsOf
  conv => lhs; rw [e]
  rw [flat_filter, List.range_eq_range']
  exact selP_range _ as 0 [] rfl
theorem lksOf_sel {as : List Ask} {ch : List Nat} (h : ch.Sublist (List.range as.length)) : lksOf as ch = selL as 0 fun k => decide (k ∈ ch) := by
  have e := sub_filter h List.nodup_range
  unfold lksOf
  conv => lhs; rw [e]
  rw [flat_filter, List.range_eq_range']
  exact selL_range _ as 0 [] rfl
/-! ### what is known in the end -/
inductive Md where
  | free (m : Nat)
  | forced (t : Nat)
def Md.tg : Md → Nat
  | .free m => m
  | .forced t => t
/-- what the target comes to hold -/
def Md.own (md : Md) (fs : List (Str × Kd)) (t : Option Nat) : En := match md with
  | .free _ => .kd (.rc fs t)
  | .forced _ => .row fs t
def Fin (kn : Kn) (sel : Nat → Bool) (b : Nat) : Ex → Nat → Nat → Md → Prop
  | .num _, p, _, md => kn md.tg = if sel p then some (.kd .num) else none
  | .name _, p, _, md => kn md.tg = if sel p then some (.kd (.var b)) else none
  | .empty, p, _, md => kn md.tg = if sel p then some (md.own [] none) else none
  | .wth l e r, p, f, md =>
    if sel p then kn md.tg = some (md.own [(l, .var (f + 1))] (some (f + 1 + cnt e + cnt r))) ∧ kn (f + 1 + cnt e) = some (.kd (.rc [] (some (f + 1 + cnt e + cnt r)))) ∧ Fin kn sel b e (p + 1) (f + 1) (.free (f + 1)) ∧ Fin kn sel b r (p + 1 + sz e) (f + 1 + cnt e) (.forced (f + 1 + cnt e + cnt r))
    else kn md.tg = none ∧ kn (f + 1 + cnt e + cnt r) = none ∧ Fin kn sel b e (p + 1) (f + 1) (.free (f + 1)) ∧ Fin kn sel b r (p + 1 + sz e) (f + 1 + cnt e) (.free (f + 1 + cnt e))
  | _, _, _, _ => False
theorem Fin.congr {kn kn' : Kn} {sel : Nat → Bool} {b : Nat} : ∀ {e : Ex} {p f : Nat} {md : Md}, Fin kn sel b e p f md → (∀ j, (f ≤ j ∧ j < f + cnt e) ∨ j = md.tg → kn' j = kn j) → Fin kn' sel b e p f md
  | .num _, p, f, md, h, k => (k _ (.inr rfl)).trans h
  | .name _, p, f, md, h, k => (k _ (.inr rfl)).trans h
  | .empty, p, f, md, h, k => (k _ (.inr rfl)).trans h
  | .wth l e r, p, f, md, h, k => by
    simp only [cnt] at k
    unfold Fin at h ⊢
    split at h
    · next hs =>
      rw [if_pos hs]
      obtain ⟨h1, h2, h3, h4⟩ := h
      refine ⟨(k _ (.inr rfl)).trans h1, (k _ (.inl (by omega))).trans h2, h3.congr fun j hj => k j (.inl ?_), h4.congr fun j hj => k j (.inl ?_)⟩
      · rcases hj with hj | hj
        · omega
        · rw [hj]; show f ≤ f + 1 ∧ f + 1 < _; omega
      · rcases hj with hj | hj
        · omega
        · rw [hj]; show f ≤ f + 1 + cnt e + cnt r ∧ f + 1 + cnt e + cnt r < _; omega
    · next hs =>
      rw [if_neg hs]
      obtain ⟨h1, h2, h3, h4⟩ := h
      refine ⟨(k _ (.inr rfl)).trans h1, (k _ (.inl (by omega))).trans h2, h3.congr fun j hj => k j (.inl ?_), h4.congr fun j hj => k j (.inl ?_)⟩
      · rcases hj with hj | hj
        · omega
        · rw [hj]; show f ≤ f + 1 ∧ f + 1 < _; omega
      · rcases hj with hj | hj
        · omega
        · rw [hj]; show f ≤ f + 1 + cnt e ∧ f + 1 + cnt e < _; omega
  | .lam _ _, _, _, _, h, _ => h
  | .app _ _, _, _, _, h, _ => h
end Fw
/-! Fm2: plain: the wants of a plain expression, made the same one after the other. -/
namespace Fw
open PySem PySem.Spec PyProof.Rows L2
theorem put_eq (kn : Kn) (m : Nat) (e : En) : (kn.put m e) m = some e := if_pos rfl
theorem put_ne {kn : Kn} {m j : Nat} {e : En} (h : j ≠ m) : (kn.put m e) j = kn j := if_neg h
/-- labels that tails may be told to lack: c stands ahead in the chain -/
def LkC (B : Bd) : Ex → Nat → List Str → Prop
  | .wth l e r, f, c => l ∉ c ∧ l ∈ B.U ∧ PyData.strOk l = true ∧ B.Tk (f + 1 + cnt e + cnt r) ∧ (∀ l', B.Lk (f + 1 + cnt e + cnt r) l' ↔ (l' = l ∨ l' ∈ c)) ∧ LkC B e (f + 1) [] ∧ LkC B r (f + 1 + cnt e) (l :: c)
  | _, _, _ => True
/-- where a plain expression's wants begin -/
structure Pre (B : Bd) (nm : Nm) (kn : Kn) (b : Nat) (e : Ex) (f : Nat) (c : List Str) (md : Md) : Prop where
  rng : ∀ j, f < j → j < f + cnt e → kn j = none
  bb : (∃ x, nm x = some b) → kn b = none ∧ b < f ∧ b ≠ md.tg
  un : kn md.tg = none
  lt : md.tg < B.N
  le : f + cnt e ≤ B.N
  fr : ∀ m, md = .free m → m = f ∨ (m < f ∧ kn f = some (.kd (.var m)))
  fo : ∀ t, md = .forced t → kn f = some (.kd (.rc [] (some t))) ∧ (t < f ∨ f + cnt e ≤ t) ∧ (∀ l, B.Lk t l → l ∈ c) ∧ isRec e
structure Post (sel : Nat → Bool) (kn kn' : Kn) (b : Nat) (e : Ex) (p f : Nat) (md : Md) : Prop where
  fin : Fin kn' sel b e p f md
  out : ∀ j, ¬ (f ≤ j ∧ j < f + cnt e) → j ≠ md.tg → kn' j = kn j
  at' : md.tg ≠ f → kn' f = kn f
section
variable {B : Bd} {kn : Kn}
theorem mw1 {kn1 : Kn} {a b k1 k2 : Kd} {i j : Nat} (h1 : Lup kn a k1 i) (h2 : Lup kn b k2 j) (h : MtC B kn k1 k2 kn1 []) : Mw B kn [(a, b)] 1 kn1 :=
  Mw.step (ws := []) h1 h2 h .nil
theorem mws1 {kn1 : Kn} {a b k1 k2 : Kd} {i j : Nat} (h1 : Lup kn a k1 i) (h2 : Lup kn b k2 j) (h : MtC B kn k1 k2 kn1 []) : Mws B kn [(a, b)] kn1 :=
  .cons (mw1 h1 h2 h) (by decide) .nil
theorem shaped_num : SeqAt.shaped Kd.num.dat = true := by
  simp only [Kd.dat, SeqAt.shaped, PyData.canLay0, PyData.canLayAll0, PyData.depth, PyData.depthAll]
  decide +kernel
theorem shaped_rc (t : Option Nat) : SeqAt.shaped (Kd.rc [] t).dat = true := by
  cases t <;>
  · simp only [Kd.dat, datF, tD, SeqAt.shaped, PyData.canLay0, PyData.canLayAll0, PyData.depth, PyData.depthAll]
    decide +kernel
theorem shaped_rc1 {l : Str} (h : PyData.strOk l = true) (m : Nat) (t : Option Nat) : SeqAt.shaped (Kd.rc [(l, .var m)] t).dat = true := by
  cases t <;>
  · simp only [Kd.dat, datF, tD, SeqAt.shaped, PyData.canLay0, PyData.canLayAll0, PyData.depth, PyData.depthAll, h]
    decide +kernel
theorem wt_rc {b : Option Nat} {t : Option Nat} (h1 : ∀ n, t = some n → kn n = none) (h2 : ∀ n, t = some n → b ≠ some n) : Wt kn b (.rc [] t) 2 :=
  Wt.rc (x := 0) (fs' := []) (.done rfl) (.done h1) List.nodup_nil (by decide) h2 .nil
theorem wt_var {b : Option Nat} {m : Nat} (h : kn m = none) (n : b ≠ some m) : Wt kn b (.var m) 1 := .var (.unk h) n
theorem wt_rc1 {b : Option Nat} {t m : Nat} {l : Str} (h1 : kn t = none) (h2 : b ≠ some t) (h3 : kn m = none) (h4 : b ≠ some m) : Wt kn b (.rc [(l, .var m)] (some t)) 4 :=
  Wt.rc (x := 1) (fs' := [(l, .var m)]) (.done rfl) (.done fun n e => by cases e; exact h1) (by simp) (by show 1 ≤ 1000; decide) (fun n e => by cases e; exact h2) (.cons (wt_var h3 h4) .nil)
end
theorem proc {B : Bd} {nm : Nm} {b : Nat} {sk : Kd} (sel : Nat → Bool) : ∀ (e : Ex) (p f : Nat) (c : List Str) (md : Md) (kn : Kn), Sm nm b e → LkC B e f c → Pre B nm kn b e f c md → ∃ kn', Mws B kn (selP (asks sk nm e f) p sel) kn' ∧ Post sel kn kn' b e p f md
  | .num i, p, f, c, md, kn, sm, lk, pre => by
    show ∃ kn', Mws B kn ((if sel p then [(Kd.var f, Kd.num)] else []) ++ []) kn' ∧ _
    rw [List.append_nil]
    have un := pre.un
    by_cases hs : sel p = true
    · rw [if_pos hs]
      cases md with
      | forced t => exact (pre.fo t rfl).2.2.2.elim
      | free m =>
        obtain ⟨i, hl⟩ : ∃ i, Lup kn (.var f) (.var m) i := by
          rcases pre.fr m rfl with rfl | ⟨_, h⟩
          · exact ⟨_, .unk un⟩
          · exact ⟨_, .step h (.unk un)⟩
        refine ⟨_, mws1 hl (.done rfl) (.fill (x := 1) (by intro z; cases z) (.num (.done rfl)) (by decide) pre.lt shaped_num), ⟨?_, fun j _ hj => put_ne hj, fun h => put_ne fun z => h z.symm⟩⟩
        show (kn.put m _) m = if sel p then _ else _
        rw [if_pos hs, put_eq]
    · rw [if_neg hs]
      refine ⟨kn, .nil, ⟨?_, fun _ _ _ => rfl, fun _ => rfl⟩⟩
      show kn md.tg = if sel p then _ else _
      rw [if_neg hs]
      exact un
  | .name x, p, f, c, md, kn, sm, lk, pre => by
    have sm : nm x = some b := sm
    have ea : asks sk nm (.name x) f = [([(.var f, .var b)], [])] := by simp only [asks, sm]
    rw [ea]
    show ∃ kn', Mws B kn ((if sel p then [(Kd.var f, Kd.var b)] else []) ++ []) kn' ∧ _
    rw [List.append_nil]
    have un := pre.un
    obtain ⟨b1, b2, b3⟩ := pre.bb ⟨x, sm⟩
    by_cases hs : sel p = true
    · rw [if_pos hs]
      cases md with
      | forced t => exact (pre.fo t rfl).2.2.2.elim
      | free m =>
        obtain ⟨i, hl⟩ : ∃ i, Lup kn (.var f) (.var m) i := by
          rcases pre.fr m rfl with rfl | ⟨_, h⟩
          · exact ⟨_, .unk un⟩
          · exact ⟨_, .step h (.unk un)⟩
        have bm : b ≠ m := b3
        refine ⟨_, mws1 hl (.unk b1) (.fill (x := 1) (by intro z; cases z; exact bm rfl) (wt_var b1 (by intro z; cases z; exact bm rfl)) (by decide) pre.lt (shaped_var b)), ⟨?_, fun j _ hj => put_ne hj, fun h => put_ne fun z => h z.symm⟩⟩
        show (kn.put m _) m = if sel p then _ else _
        rw [if_pos hs, put_eq]
    · rw [if_neg hs]
      refine ⟨kn, .nil, ⟨?_, fun _ _ _ => rfl, fun _ => rfl⟩⟩
      show kn md.tg = if sel p then _ else _
      rw [if_neg hs]
      exact un
  | .empty, p, f, c, md, kn, sm, lk, pre => by
    show ∃ kn', Mws B kn ((if sel p then [(Kd.var f, Kd.rc [] none)] else []) ++ []) kn' ∧ _
    rw [List.append_nil]
    have un := pre.un
    by_cases hs : sel p = true
    · rw [if_pos hs]
      cases md with
      | forced t =>
        obtain ⟨f1, f2, f3, _⟩ := pre.fo t rfl
        refine ⟨_, mws1 (.step f1 (.done rfl)) (.done rfl) (.row ⟨un, pre.lt, by decide, (fun n e => by cases e), fun l a h => by cases h⟩), ⟨?_, fun j _ hj => put_ne hj, fun h => put_ne fun z => h z.symm⟩⟩
        show (kn.put t _) t = if sel p then _ else _
        rw [if_pos hs, put_eq]
        rfl
      | free m =>
        obtain ⟨i, hl⟩ : ∃ i, Lup kn (.var f) (.var m) i := by
          rcases pre.fr m rfl with rfl | ⟨_, h⟩
          · exact ⟨_, .unk un⟩
          · exact ⟨_, .step h (.unk un)⟩
        refine ⟨_, mws1 hl (.done rfl) (.fill (x := 2) (by intro z; cases z) (wt_rc (fun n e => by cases e) (fun n e => by cases e)) (by decide) pre.lt (shaped_rc none)), ⟨?_, fun j _ hj => put_ne hj, fun h => put_ne fun z => h z.symm⟩⟩
        show (kn.put m _) m = if sel p then _ else _
        rw [if_pos hs, put_eq]
        rfl
    · rw [if_neg hs]
      refine ⟨kn, .nil, ⟨?_, fun _ _ _ => rfl, fun _ => rfl⟩⟩
      show kn md.tg = if sel p then _ else _
      rw [if_neg hs]
      exact un
  | .wth l e r, p, f, c, md, kn, sm, lk, pre => by
    obtain ⟨se, sr, ir⟩ := sm
    obtain ⟨k1, k2, k3, k4, k5, k6, k7⟩ := lk
    rw [asks_wth f se sr]
    have ce := cnt_pos se
    have cr := cnt_pos sr
    have hle : f + (cnt e + cnt r + 2) ≤ B.N := pre.le
    have hrng : ∀ j, f < j → j < f + (cnt e + cnt r + 2) → kn j = none := pre.rng
    have un := pre.un
    have tgo : md.tg ≤ f ∨ f + (cnt e + cnt r + 2) ≤ md.tg := by
      cases md with
      | free m => rcases pre.fr m rfl with h | ⟨h, _⟩ <;> (left; show m ≤ f; omega)
      | forced t =>
        rcases (pre.fo t rfl).2.1 with h | h
        · left; show t ≤ f; omega
        · exact .inr h
    -- the children, from any state that knows none of them
    have kids : ∀ (kn2 : Kn) (mr : Md), (∀ j, f + 1 ≤ j → j < f + (cnt e + cnt r + 2) → j ≠ f + 1 + cnt e → kn2 j = none) → ((∃ x, nm x = some b) → kn2 b = none) →
        (mr = .free (f + 1 + cnt e) ∧ kn2 (f + 1 + cnt e) = none ∨ mr = .forced (f + 1 + cnt e + cnt r) ∧ kn2 (f + 1 + cnt e) = some (.kd (.rc [] (some (f + 1 + cnt e + cnt r))))) →
        ∃ kn', Mws B kn2 (selP (asks sk nm e (f + 1) ++ asks sk nm r (f + 1 + cnt e)) (p + 1) sel) kn' ∧ Fin kn' sel b e (p + 1) (f + 1) (.free (f + 1)) ∧ Fin kn' sel b r (p + 1 + sz e) (f + 1 + cnt e) mr ∧
          (∀ j, ¬ (f + 1 ≤ j ∧ j < f + (cnt e + cnt r + 2)) → kn' j = kn2 j) ∧ (mr = .free (f + 1 + cnt e) → kn' (f + 1 + cnt e + cnt r) = none) ∧ (mr = .forced (f + 1 + cnt e + cnt r) → kn' (f + 1 + cnt e) = kn2 (f + 1 + cnt e)) := by
      intro kn2 mr h1 h2 h3
      have bf : (∃ x, nm x = some b) → b < f := fun h => (pre.bb h).2.1
      obtain ⟨kn3, m3, p3⟩ := proc (B := B) (nm := nm) (b := b) (sk := sk) sel e (p + 1) (f + 1) [] (.free (f + 1)) kn2 se k6 ⟨fun j a1 a2 => h1 j (by omega) (by omega) (by omega), fun h => ⟨h2 h, by have := bf h; omega, by have := bf h; show b ≠ f + 1; omega⟩, (show kn2 (f + 1) = none from h1 _ (by omega) (by omega) (by omega)), (by show f + 1 < B.N; omega), by omega,
        (fun m e => by cases e; exact .inl rfl), (fun t e => by cases e)⟩
      have o3 : ∀ j, ¬ (f + 1 ≤ j ∧ j < f + 1 + cnt e) → kn3 j = kn2 j := fun j hj => p3.out j hj (by show j ≠ f + 1; omega)
      obtain ⟨kn4, m4, p4⟩ := proc (B := B) (nm := nm) (b := b) (sk := sk) sel r (p + 1 + sz e) (f + 1 + cnt e) (l :: c) mr kn3 sr k7 (by
        rcases h3 with ⟨rfl, h4⟩ | ⟨rfl, h4⟩
        · exact ⟨fun j a1 a2 => by rw [o3 j (by omega)]; exact h1 j (by omega) (by omega) (by omega), fun h => ⟨by rw [o3 b (by have := bf h; omega)]; exact h2 h, by have := bf h; omega, by have := bf h; show b ≠ f + 1 + cnt e; omega⟩, by show kn3 (f + 1 + cnt e) = none; rw [o3 _ (by omega)]; exact h4, (by show f + 1 + cnt e < B.N; omega), by omega,
            (fun m e => by cases e; exact .inl rfl), (fun t e => by cases e)⟩
        · exact ⟨fun j a1 a2 => by rw [o3 j (by omega)]; exact h1 j (by omega) (by omega) (by omega), fun h => ⟨by rw [o3 b (by have := bf h; omega)]; exact h2 h, by have := bf h; omega, by have := bf h; show b ≠ f + 1 + cnt e + cnt r; omega⟩, by show kn3 (f + 1 + cnt e + cnt r) = none; rw [o3 _ (by omega)]; exact h1 _ (by omega) (by omega) (by omega), (by show f + 1 + cnt e + cnt r < B.N; omega), by omega,
            (fun m e => by cases e), fun t et => by
              cases et
              refine ⟨by rw [o3 _ (by omega)]; exact h4, .inr (by omega), fun l' hl => ?_, ir⟩
              rcases (k5 l').mp hl with z | z
              · rw [z]; exact List.mem_cons_self
              · exact List.mem_cons_of_mem _ z⟩)
      have ln : (asks sk nm e (f + 1)).length = sz e := asks_len _ se
      refine ⟨kn4, by rw [selP_app, ln]; exact m3.app m4, p3.fin.congr fun j hj => ?_, p4.fin, fun j hj => ?_, fun hm => ?_, fun hm => ?_⟩
      · have hj2 : f + 1 ≤ j ∧ j < f + 1 + cnt e := by
          rcases hj with hj | hj
          · exact hj
          · rw [hj]; show f + 1 ≤ f + 1 ∧ f + 1 < _; omega
        refine p4.out j (by omega) ?_
        rcases h3 with ⟨rfl, _⟩ | ⟨rfl, _⟩
        · show j ≠ f + 1 + cnt e; omega
        · show j ≠ f + 1 + cnt e + cnt r; omega
      · rw [p4.out j (by omega) (by rcases h3 with ⟨rfl, _⟩ | ⟨rfl, _⟩ <;> (first | (show j ≠ f + 1 + cnt e; omega) | (show j ≠ f + 1 + cnt e + cnt r; omega))), o3 j (by omega)]
      · rw [p4.out _ (by omega) (by rw [hm]; show f + 1 + cnt e + cnt r ≠ f + 1 + cnt e; omega), o3 _ (by omega)]
        exact h1 _ (by omega) (by omega) (by omega)
      · rw [p4.at' (by rw [hm]; show f + 1 + cnt e + cnt r ≠ f + 1 + cnt e; omega), o3 _ (by omega)]
    by_cases hs : sel p = true
    · -- its own two wants
      have nfr : kn (f + 1 + cnt e) = none := hrng _ (by omega) (by omega)
      have nt : kn (f + 1 + cnt e + cnt r) = none := hrng _ (by omega) (by omega)
      have nfe : kn (f + 1) = none := hrng _ (by omega) (by omega)
      let kn1 : Kn := kn.put (f + 1 + cnt e) (.kd (.rc [] (some (f + 1 + cnt e + cnt r))))
      have hk1 : ∀ {j}, j ≠ f + 1 + cnt e → kn1 j = kn j := fun h => put_ne h
      have st1 : Mw B kn [(.var (f + 1 + cnt e), .rc [] (some (f + 1 + cnt e + cnt r)))] 1 kn1 := mw1 (.unk nfr) (.done rfl) (.fill (x := 2) (by intro z; cases z) (wt_rc (fun n e => by cases e; exact nt) (fun n e => by cases e; intro z; have := Option.some.inj z; omega)) (by decide) (by omega) (shaped_rc _))
      obtain ⟨st2, own⟩ : (Mw B kn1 [(.var f, .rc [(l, .var (f + 1))] (some (f + 1 + cnt e + cnt r)))] 1 (kn1.put md.tg (md.own [(l, .var (f + 1))] (some (f + 1 + cnt e + cnt r))))) ∧ True := by
        refine ⟨?_, trivial⟩
        cases md with
        | free m =>
          have mf : m ≤ f := by rcases pre.fr m rfl with h | ⟨h, _⟩ <;> omega
          have um : kn1 m = none := by rw [hk1 (by omega)]; exact un
          obtain ⟨i, hl⟩ : ∃ i, Lup kn1 (.var f) (.var m) i := by
            rcases pre.fr m rfl with rfl | ⟨_, h⟩
            · exact ⟨_, .unk um⟩
            · exact ⟨_, .step (by rw [hk1 (by omega)]; exact h) (.unk um)⟩
          exact mw1 hl (.done rfl) (.fill (x := 4) (by intro z; cases z) (wt_rc1 (by rw [hk1 (by omega)]; exact nt) (by intro z; have := Option.some.inj z; omega) (by rw [hk1 (by omega)]; exact nfe) (by intro z; have := Option.some.inj z; omega)) (by decide) pre.lt (shaped_rc1 k3 _ _))
        | forced t0 =>
          obtain ⟨f1, f2, f3, _⟩ := pre.fo t0 rfl
          have f2 : t0 < f ∨ f + (cnt e + cnt r + 2) ≤ t0 := f2
          have ut : kn1 t0 = none := by rw [hk1 (by omega)]; exact un
          refine mw1 (.step (k := .rc [] (some t0)) (by rw [hk1 (by omega)]; exact f1) (.done rfl)) (.done rfl) (.row ⟨ut, pre.lt, (by show 1 ≤ 1; decide), fun n e => ?_, fun l' a h => ?_⟩)
          · cases e
            refine ⟨by rw [hk1 (by omega)]; exact nt, by omega, (by show 0 < 1; decide), by omega, k4, fun l' h => (k5 l').mpr ?_⟩
            rcases h with h | h
            · exact .inr (f3 l' h)
            · simp at h
              exact .inl h
          · rw [List.mem_singleton] at h
            cases h
            exact ⟨fun z => k1 (f3 _ z), k2, 1, by decide, wt_var (by rw [hk1 (by omega)]; exact nfe) (by intro z; have := Option.some.inj z; omega)⟩
      have hk2 : ∀ {j}, j ≠ f + 1 + cnt e → j ≠ md.tg → (kn1.put md.tg (md.own [(l, .var (f + 1))] (some (f + 1 + cnt e + cnt r)))) j = kn j := fun h1 h2 => by rw [put_ne h2, hk1 h1]
      obtain ⟨kn', m1, m2, m3, m4, m5, m6⟩ := kids (kn1.put md.tg (md.own [(l, .var (f + 1))] (some (f + 1 + cnt e + cnt r)))) (.forced (f + 1 + cnt e + cnt r)) (fun j a1 a2 a3 => by rw [hk2 a3 (by omega)]; exact hrng j (by omega) a2) (fun h => by
          obtain ⟨b1, b2, b3⟩ := pre.bb h
          rw [hk2 (by omega) b3]
          exact b1) (.inr ⟨rfl, by rw [put_ne (by omega)]; exact put_eq _ _ _⟩)
      refine ⟨kn', ?_, ⟨?_, fun j hj hj2 => ?_, fun h => ?_⟩⟩
      · show Mws B kn ((if sel p then _ else []) ++ _) kn'
        rw [if_pos hs]
        exact .cons st1 (by decide) (.cons st2 (by decide) m1)
      · unfold Fin
        rw [if_pos hs]
        refine ⟨by rw [m4 _ (by omega)]; exact put_eq _ _ _, by rw [m6 rfl, put_ne (by omega)]; exact put_eq _ _ _, m2, m3⟩
      · have hj : ¬ (f ≤ j ∧ j < f + (cnt e + cnt r + 2)) := hj
        rw [m4 _ (by omega), hk2 (by omega) hj2]
      · rw [m4 _ (by omega), hk2 (by omega) (fun z => h z.symm)]
    · obtain ⟨kn', m1, m2, m3, m4, m5, m6⟩ := kids kn (.free (f + 1 + cnt e)) (fun j a1 a2 a3 => hrng j (by omega) a2) (fun h => (pre.bb h).1) (.inl ⟨rfl, hrng _ (by omega) (by omega)⟩)
      refine ⟨kn', ?_, ⟨?_, fun j hj hj2 => ?_, fun h => ?_⟩⟩
      · show Mws B kn ((if sel p then _ else []) ++ _) kn'
        rw [if_neg hs]
        exact m1
      · unfold Fin
        rw [if_neg hs]
        exact ⟨by rw [m4 _ (by omega)]; exact un, m5 rfl, m2, m3⟩
      · have hj : ¬ (f ≤ j ∧ j < f + (cnt e + cnt r + 2)) := hj
        exact m4 _ (by omega)
      · exact m4 _ (by omega)
  | .lam _ _, _, _, _, _, _, sm, _, _ => sm.elim
  | .app _ _, _, _, _, _, _, sm, _, _ => sm.elim
end Fw
/-! Fm3: plain: weights and settled kinds. -/
namespace Fw
open PySem PySem.Spec PyProof.Rows L2
def sized (sel : Nat → Bool) : Ex → Nat → Bool → Nat
  | .empty, p, fo => if fo || sel p then 2 else 1
  | .wth _ e r, p, fo => if sel p then sized sel r (p + 1 + sz e) true + 1 + sized sel e (p + 1) false else if fo then 2 else 1
  | _, _, _ => 1
def fuel : Ex → Nat
  | .wth _ e r => max (fuel e + 1) (fuel r)
  | _ => 1
mutual
def kdE (b : Nat) : Ex → Kd
  | .num _ => .num
  | .name _ => .var b
  | .empty => .rc [] none
  | .wth l e r => .rc (srt ((l, kdE b e) :: fldsE b r)) none
  | .lam _ _ => .num
  | .app _ _ => .num
def fldsE (b : Nat) : Ex → List (Str × Kd)
  | .wth l e r => (l, kdE b e) :: fldsE b r
  | _ => []
end
def chn : Ex → List Str
  | .wth l _ r => l :: chn r
  | _ => []
/-- each record's labels are unlike, and few -/
def Wf : Ex → Prop
  | .wth l e r => l ∉ chn r ∧ (chn r).length < 60 ∧ Wf e ∧ Wf r
  | _ => True
theorem chn_nd : ∀ {e : Ex}, Wf e → (chn e).Nodup
  | .num _, _ => List.nodup_nil
  | .name _, _ => List.nodup_nil
  | .empty, _ => List.nodup_nil
  | .wth l e r, h => List.nodup_cons.mpr ⟨h.1, chn_nd h.2.2.2⟩
  | .lam _ _, _ => List.nodup_nil
  | .app _ _, _ => List.nodup_nil
theorem chn_len : ∀ {e : Ex}, Wf e → (chn e).length < 61
  | .num _, _ => by show 0 < 61; decide
  | .name _, _ => by show 0 < 61; decide
  | .empty, _ => by show 0 < 61; decide
  | .wth l e r, h => by have := h.2.1; show (chn r).length + 1 < 61; omega
  | .lam _ _, _ => by show 0 < 61; decide
  | .app _ _, _ => by show 0 < 61; decide
theorem fuel_pos : ∀ e, 1 ≤ fuel e
  | .num _ => Nat.le_refl _
  | .name _ => Nat.le_refl _
  | .empty => Nat.le_refl _
  | .wth l e r => by have := fuel_pos r; show 1 ≤ max (fuel e + 1) (fuel r); omega
  | .lam _ _ => Nat.le_refl _
  | .app _ _ => Nat.le_refl _
theorem sized_le (sel : Nat → Bool) {nm : Nm} {b : Nat} : ∀ (e : Ex) (p : Nat) (fo : Bool), Sm nm b e → sized sel e p fo ≤ 2 * sz e
  | .num _, _, _, _ => by show 1 ≤ 2 * 1; decide
  | .name _, _, _, _ => by show 1 ≤ 2 * 1; decide
  | .empty, p, fo, _ => by
    show (if (fo || sel p) = true then 2 else 1) ≤ 2 * 1
    split <;> decide
  | .wth l e r, p, fo, h => by
    have h1 := sized_le sel e (p + 1) false h.1
    have h2 := sized_le sel r (p + 1 + sz e) true h.2.1
    show (if sel p = true then _ else if fo = true then 2 else 1) ≤ 2 * (sz e + sz r + 1)
    split
    · omega
    · split <;> omega
  | .lam _ _, _, _, h => h.elim
  | .app _ _, _, _, h => h.elim
theorem LO.pre' {kn : Kn} {fs fs' : List (Str × Kd)} {t t' : Option Nat} {j : Nat} (h : LO kn fs t fs' t' j) : fs' = fs ++ fs'.drop fs.length := by
  obtain ⟨r, e⟩ := h.pre
  rw [e]
  simp
/-- pointwise over sorted lists -/
theorem stlF_srt {kn : Kn} {n : Nat} {fs ds : List (Str × Kd)} (h : StlF kn n fs ds) (nd : (fs.map (·.1)).Nodup) : StlF kn n (srt fs) (srt ds) := by
  obtain ⟨zs, e1, e2, hz⟩ : ∃ zs : List (Str × (Kd × Kd)), fs = zs.map (fun x => (x.1, x.2.1)) ∧ ds = zs.map (fun x => (x.1, x.2.2)) ∧ ∀ x ∈ zs, Stl kn n x.2.1 x.2.2 := by
    clear nd
    induction fs generalizing ds with
    | nil => cases h; exact ⟨[], rfl, rfl, fun x hx => by cases hx⟩
    | cons f r ih =>
      cases h with
      | @cons _ l k d _ ds a b =>
        obtain ⟨zs, e1, e2, hz⟩ := ih b
        refine ⟨(l, (k, d)) :: zs, by rw [List.map_cons, ← e1], by rw [List.map_cons, ← e2], fun x hx => ?_⟩
        rcases List.mem_cons.mp hx with rfl | hx
        · exact a
        · exact hz x hx
  have ndz : (zs.map (·.1)).Nodup := by
    rw [e1, List.map_map] at nd
    exact nd
  rw [e1, e2, ← srt_map (fun x : Kd × Kd => x.1) ndz, ← srt_map (fun x : Kd × Kd => x.2) ndz]
  have hs : ∀ x ∈ srt zs, Stl kn n x.2.1 x.2.2 := fun x hx => hz x ((srt_perm zs).subset hx)
  generalize srt zs = ys at hs
  induction ys with
  | nil => exact .nil
  | cons y r ih => exact .cons (hs y List.mem_cons_self) (ih fun x hx => hs x (List.mem_cons_of_mem _ hx))
theorem StlF.keys {kn : Kn} {n : Nat} : ∀ {fs ds : List (Str × Kd)}, StlF kn n fs ds → ds.map (·.1) = fs.map (·.1)
  | _, _, .nil => rfl
  | _, _, .cons a b => by simp [b.keys]
def allS (sel : Nat → Bool) (e : Ex) (p : Nat) : Prop := ∀ q, p ≤ q → q < p + sz e → sel q = true
/-- an open kind, resolved -/
def V1 (kn : Kn) (sel : Nat → Bool) (b : Nat) (e : Ex) (p m : Nat) : Prop := ∃ d, (∀ n, fuel e ≤ n → Stl kn n (.var m) d) ∧ Wt kn none (.var m) (sized sel e p false) ∧ (allS sel e p → d = kdE b e)
/-- an open row, resolved -/
def FR (kn : Kn) (sel : Nat → Bool) (b : Nat) (e : Ex) (p t : Nat) : Prop := ∃ (fs' ds : List (Str × Kd)) (t' : Option Nat) (j x : Nat), (∀ pre, LO kn pre (some t) (pre ++ fs') t' j) ∧ (∀ n, fuel e ≤ n + 1 → StlF kn n fs' ds) ∧ (fs'.map (·.1)).Sublist (chn e) ∧
  WtF kn none fs' x ∧ 2 + fs'.length + x = sized sel e p true ∧ (allS sel e p → ds = fldsE b e ∧ t' = none)
def Res (kn : Kn) (sel : Nat → Bool) (b : Nat) (e : Ex) (p : Nat) : Md → Prop
  | .free m => V1 kn sel b e p m
  | .forced t => FR kn sel b e p t
section
variable {kn : Kn} {sel : Nat → Bool} {b : Nat} {nm : Nm}
/-- a record of one field more, from its row -/
theorem rc_more {l : Str} {e r : Ex} {p fe t m i : Nat} {k : Kd} (w : l ∉ chn r ∧ (chn r).length < 60 ∧ Wf e ∧ Wf r) (hl : Lup kn k (.rc [(l, .var fe)] (some t)) i) (ve : V1 kn sel b e (p + 1) fe) (fr : FR kn sel b r (p + 1 + sz e) t) (hs : sel p = true) :
    ∃ d, (∀ n, fuel (.wth l e r) ≤ n → Stl kn n k d) ∧ Wt kn none k (sized sel (.wth l e r) p false) ∧ (allS sel (.wth l e r) p → d = kdE b (.wth l e r)) := by
  obtain ⟨d, v1, v2, v3⟩ := ve
  obtain ⟨fs', ds, t', j, x, r1, r2, r3, r4, r5, r6⟩ := fr
  have nd : (([(l, Kd.var fe)] ++ fs').map (·.1)).Nodup := by
    show (l :: fs'.map (·.1)).Nodup
    exact List.nodup_cons.mpr ⟨fun z => w.1 (r3.subset z), r3.nodup (chn_nd w.2.2.2)⟩
  have ln : fs'.length < 60 := by
    have := r3.length_le
    rw [List.length_map] at this
    have := w.2.1
    omega
  refine ⟨.rc (srt ((l, d) :: ds)) t', fun n hn => ?_, ?_, fun ha => ?_⟩
  · cases n with
    | zero => exact absurd hn (by have := fuel_pos (.wth l e r); omega)
    | succ n =>
      have hn : max (fuel e + 1) (fuel r) ≤ n + 1 := hn
      exact .rc hl (r1 [(l, .var fe)]) nd (by show fs'.length + 1 < 64; omega) (stlF_srt (.cons (v1 n (by omega)) (r2 n (by omega))) nd)
  · have h := Wt.rc (b := none) hl (r1 [(l, .var fe)]) nd (by show fs'.length + 1 ≤ 1000; omega) (fun n _ => by intro z; cases z) (.cons v2 r4)
    have e1 : sized sel (.wth l e r) p false = sized sel r (p + 1 + sz e) true + 1 + sized sel e (p + 1) false := by
      show (if sel p = true then _ else _) = _
      rw [if_pos hs]
    have e2 : 2 + ([(l, Kd.var fe)] ++ fs').length + (sized sel e (p + 1) false + x) = sized sel (.wth l e r) p false := by
      rw [e1, List.length_append, List.length_singleton]
      omega
    rw [← e2]
    exact h
  · have h1 : allS sel e (p + 1) := fun q a1 a2 => ha q (by omega) (by show q < p + (sz e + sz r + 1); omega)
    have h2 : allS sel r (p + 1 + sz e) := fun q a1 a2 => ha q (by omega) (by show q < p + (sz e + sz r + 1); omega)
    obtain ⟨g1, g2⟩ := r6 h2
    rw [v3 h1, g1, g2]
    rfl
theorem res (hb : (∃ x, nm x = some b) → kn b = none) : ∀ (e : Ex) (p f : Nat) (md : Md), Sm nm b e → Wf e → (∀ t, md = .forced t → isRec e) → Fin kn sel b e p f md → Res kn sel b e p md
  | .num i, p, f, md, sm, wf, ir, fin => by
    cases md with
    | forced t => exact (ir t rfl).elim
    | free m =>
      have fin : kn m = if sel p then some (.kd .num) else none := fin
      by_cases hs : sel p = true
      · rw [if_pos hs] at fin
        refine ⟨.num, fun n hn => ?_, .num (.step fin (.done rfl)), fun _ => rfl⟩
        cases n with
        | zero => exact absurd hn (by show ¬ 1 ≤ 0; decide)
        | succ n => exact .num (.step fin (.done rfl))
      · rw [if_neg hs] at fin
        refine ⟨.var m, fun n hn => ?_, wt_var fin (by intro z; cases z), fun ha => absurd (ha p (Nat.le_refl _) (by show p < p + 1; omega)) hs⟩
        cases n with
        | zero => exact absurd hn (by show ¬ 1 ≤ 0; decide)
        | succ n => exact .var (.unk fin)
  | .name x, p, f, md, sm, wf, ir, fin => by
    cases md with
    | forced t => exact (ir t rfl).elim
    | free m =>
      have fin : kn m = if sel p then some (.kd (.var b)) else none := fin
      have ub := hb ⟨x, sm⟩
      by_cases hs : sel p = true
      · rw [if_pos hs] at fin
        refine ⟨.var b, fun n hn => ?_, .var (.step fin (.unk ub)) (by intro z; cases z), fun _ => rfl⟩
        cases n with
        | zero => exact absurd hn (by show ¬ 1 ≤ 0; decide)
        | succ n => exact .var (.step fin (.unk ub))
      · rw [if_neg hs] at fin
        refine ⟨.var m, fun n hn => ?_, wt_var fin (by intro z; cases z), fun ha => absurd (ha p (Nat.le_refl _) (by show p < p + 1; omega)) hs⟩
        cases n with
        | zero => exact absurd hn (by show ¬ 1 ≤ 0; decide)
        | succ n => exact .var (.unk fin)
  | .empty, p, f, md, sm, wf, ir, fin => by
    have fin : kn md.tg = if sel p then some (md.own [] none) else none := fin
    cases md with
    | free m =>
      have fin : kn m = if sel p then some (.kd (.rc [] none)) else none := fin
      by_cases hs : sel p = true
      · rw [if_pos hs] at fin
        have e1 : sized sel .empty p false = 2 := by
          show (if (false || sel p) = true then 2 else 1) = 2
          rw [hs]; rfl
        refine ⟨.rc [] none, fun n hn => ?_, ?_, fun _ => rfl⟩
        · cases n with
          | zero => exact absurd hn (by show ¬ 1 ≤ 0; decide)
          | succ n => exact .rc (.step fin (.done rfl)) (.done fun n e => by cases e) List.nodup_nil (by decide) (by show StlF kn n (srt []) []; rw [show srt ([] : List (Str × Kd)) = [] from by simp [srt]]; exact .nil)
        · rw [e1]
          exact Wt.rc (x := 0) (fs' := []) (.step fin (.done rfl)) (.done fun n e => by cases e) List.nodup_nil (by decide) (fun n e => by cases e) .nil
      · rw [if_neg hs] at fin
        have e1 : sized sel .empty p false = 1 := by
          show (if (false || sel p) = true then 2 else 1) = 1
          rw [Bool.not_eq_true] at hs
          rw [hs]; rfl
        refine ⟨.var m, fun n hn => ?_, by rw [e1]; exact wt_var fin (by intro z; cases z), fun ha => absurd (ha p (Nat.le_refl _) (by show p < p + 1; omega)) hs⟩
        cases n with
        | zero => exact absurd hn (by show ¬ 1 ≤ 0; decide)
        | succ n => exact .var (.unk fin)
    | forced t =>
      have fin : kn t = if sel p then some (.row [] none) else none := fin
      have e1 : sized sel .empty p true = 2 := rfl
      by_cases hs : sel p = true
      · rw [if_pos hs] at fin
        exact ⟨[], [], none, 1, 0, fun pre => .step fin (by rw [List.append_nil]; exact .done fun n e => by cases e), fun n _ => .nil, List.nil_sublist _, .nil, rfl, fun _ => ⟨rfl, rfl⟩⟩
      · rw [if_neg hs] at fin
        exact ⟨[], [], some t, 0, 0, fun pre => by rw [List.append_nil]; exact .done fun n e => by cases e; exact fin, fun n _ => .nil, List.nil_sublist _, .nil, rfl, fun ha => absurd (ha p (Nat.le_refl _) (by show p < p + 1; omega)) hs⟩
  | .wth l e r, p, f, md, sm, wf, ir, fin => by
    unfold Fin at fin
    by_cases hs : sel p = true
    · rw [if_pos hs] at fin
      obtain ⟨h1, h2, h3, h4⟩ := fin
      have ve : V1 kn sel b e (p + 1) (f + 1) := res hb e (p + 1) (f + 1) (.free (f + 1)) sm.1 wf.2.2.1 (fun t e => by cases e) h3
      have fr : FR kn sel b r (p + 1 + sz e) (f + 1 + cnt e + cnt r) := res hb r _ _ (.forced _) sm.2.1 wf.2.2.2 (fun t _ => sm.2.2) h4
      cases md with
      | free m => exact rc_more (m := m) wf (.step (show kn m = some (.kd _) from h1) (.done rfl)) ve fr hs
      | forced t0 =>
        have h1 : kn t0 = some (.row [(l, .var (f + 1))] (some (f + 1 + cnt e + cnt r))) := h1
        obtain ⟨d, v1, v2, v3⟩ := ve
        obtain ⟨fs', ds, t', j, x, r1, r2, r3, r4, r5, r6⟩ := fr
        have e1 : sized sel (.wth l e r) p true = sized sel r (p + 1 + sz e) true + 1 + sized sel e (p + 1) false := by
          show (if sel p = true then _ else _) = _
          rw [if_pos hs]
        refine ⟨(l, .var (f + 1)) :: fs', (l, d) :: ds, t', j + 1, sized sel e (p + 1) false + x, fun pre => .step h1 ?_, fun n hn => ?_, r3.cons_cons l, .cons v2 r4, ?_, fun ha => ?_⟩
        · have := r1 (pre ++ [(l, .var (f + 1))])
          rw [List.append_assoc] at this
          exact this
        · have hn : max (fuel e + 1) (fuel r) ≤ n + 1 := hn
          exact .cons (v1 n (by omega)) (r2 n (by omega))
        · rw [e1, List.length_cons]
          omega
        · have h1 : allS sel e (p + 1) := fun q a1 a2 => ha q (by omega) (by show q < p + (sz e + sz r + 1); omega)
          have h2 : allS sel r (p + 1 + sz e) := fun q a1 a2 => ha q (by omega) (by show q < p + (sz e + sz r + 1); omega)
          obtain ⟨g1, g2⟩ := r6 h2
          rw [v3 h1, g1, g2]
          exact ⟨rfl, rfl⟩
    · rw [if_neg hs] at fin
      obtain ⟨h1, h2, h3, h4⟩ := fin
      have na : ¬ allS sel (.wth l e r) p := fun ha => hs (ha p (Nat.le_refl _) (by show p < p + (sz e + sz r + 1); omega))
      cases md with
      | free m =>
        have h1 : kn m = none := h1
        have e1 : sized sel (.wth l e r) p false = 1 := by
          show (if sel p = true then _ else if false = true then 2 else 1) = 1
          rw [if_neg hs]; rfl
        refine ⟨.var m, fun n hn => ?_, by rw [e1]; exact wt_var h1 (by intro z; cases z), fun ha => absurd ha na⟩
        cases n with
        | zero => exact absurd hn (by have := fuel_pos (.wth l e r); omega)
        | succ n => exact .var (.unk h1)
      | forced t =>
        have h1 : kn t = none := h1
        have e1 : sized sel (.wth l e r) p true = 2 := by
          show (if sel p = true then _ else if true = true then 2 else 1) = 2
          rw [if_neg hs]; rfl
        exact ⟨[], [], some t, 0, 0, fun pre => by rw [List.append_nil]; exact .done fun n e => by cases e; exact h1, fun n _ => .nil, List.nil_sublist _, .nil, e1.symm, fun ha => absurd ha na⟩
  | .lam _ _, _, _, _, sm, _, _, _ => sm.elim
  | .app _ _, _, _, _, sm, _, _, _ => sm.elim
end
end Fw
/-! Fm4: plain: each entry settles; each want weighs little; bounds. -/
namespace Fw
open PySem PySem.Spec PyProof.Rows L2
section
variable {kn : Kn} {sel : Nat → Bool} {b : Nat} {nm : Nm} {sk : Kd}
theorem fr_rec {e : Ex} {p t i : Nat} {k : Kd} (w : Wf e) (hl : Lup kn k (.rc [] (some t)) i) (fr : FR kn sel b e p t) : ∃ d, (∀ n, fuel e ≤ n → Stl kn n k d) ∧ Wt kn none k (sized sel e p true) := by
  obtain ⟨fs', ds, t', j, x, r1, r2, r3, r4, r5, r6⟩ := fr
  have nd : (fs'.map (·.1)).Nodup := r3.nodup (chn_nd w)
  have ln : fs'.length < 61 := by
    have := r3.length_le
    rw [List.length_map] at this
    have := chn_len w
    omega
  refine ⟨.rc (srt ds) t', fun n hn => ?_, ?_⟩
  · cases n with
    | zero => exact absurd hn (by have := fuel_pos e; omega)
    | succ n => exact .rc hl (r1 []) nd (by show fs'.length < 64; omega) (stlF_srt (r2 n hn) nd)
  · rw [← r5]
    exact Wt.rc hl (r1 []) nd (by show fs'.length ≤ 1000; omega) (fun n _ => by intro z; cases z) r4
theorem entries (hb : (∃ x, nm x = some b) → kn b = none) : ∀ (e : Ex) (p f : Nat) (md : Md), Sm nm b e → Wf e → (∀ t, md = .forced t → isRec e) → Fin kn sel b e p f md →
    ∀ n, fuel e ≤ n → ∀ j, (f < j ∧ j < f + cnt e) ∨ j = md.tg → ∀ en, kn j = some en → ∃ en', StlE kn n en en'
  | .num i, p, f, md, sm, wf, ir, fin, n, hn, j, hj, en, he => by
    have hj : j = md.tg := hj.elim (fun h => by have : j < f + 1 := h.2; omega) id
    subst hj
    have fin : kn md.tg = if sel p then some (.kd .num) else none := fin
    rw [fin] at he
    split at he
    · cases he
      cases n with
      | zero => exact absurd hn (by show ¬ 1 ≤ 0; decide)
      | succ n => exact ⟨_, .kd (.num (.done rfl))⟩
    · cases he
  | .name x, p, f, md, sm, wf, ir, fin, n, hn, j, hj, en, he => by
    have hj : j = md.tg := hj.elim (fun h => by have : j < f + 1 := h.2; omega) id
    subst hj
    have fin : kn md.tg = if sel p then some (.kd (.var b)) else none := fin
    rw [fin] at he
    split at he
    · cases he
      cases n with
      | zero => exact absurd hn (by show ¬ 1 ≤ 0; decide)
      | succ n => exact ⟨_, .kd (.var (.unk (hb ⟨x, sm⟩)))⟩
    · cases he
  | .empty, p, f, md, sm, wf, ir, fin, n, hn, j, hj, en, he => by
    have hj : j = md.tg := hj.elim (fun h => by have : j < f + 1 := h.2; omega) id
    subst hj
    have fin : kn md.tg = if sel p then some (md.own [] none) else none := fin
    rw [fin] at he
    split at he
    · cases he
      cases n with
      | zero => exact absurd hn (by show ¬ 1 ≤ 0; decide)
      | succ n =>
        have e0 : srt ([] : List (Str × Kd)) = [] := by simp [srt]
        cases md with
        | free m => exact ⟨_, .kd (.rc (.done rfl) (.done fun n e => by cases e) List.nodup_nil (by decide) (by rw [e0]; exact .nil))⟩
        | forced t => exact ⟨_, .row (ds := []) ⟨.done (fun n e => (by cases e)), List.nodup_nil, (by decide), (by rw [e0]; exact .nil)⟩⟩
    · cases he
  | .wth l e r, p, f, md, sm, wf, ir, fin, n, hn, j, hj, en, he => by
    have hn : max (fuel e + 1) (fuel r) ≤ n := hn
    have hj : (f < j ∧ j < f + (cnt e + cnt r + 2)) ∨ j = md.tg := hj
    unfold Fin at fin
    by_cases hs : sel p = true
    · rw [if_pos hs] at fin
      obtain ⟨h1, h2, h3, h4⟩ := fin
      have ve : V1 kn sel b e (p + 1) (f + 1) := res hb e (p + 1) (f + 1) (.free (f + 1)) sm.1 wf.2.2.1 (fun t e => by cases e) h3
      have fr : FR kn sel b r (p + 1 + sz e) (f + 1 + cnt e + cnt r) := res hb r _ _ (.forced _) sm.2.1 wf.2.2.2 (fun t _ => sm.2.2) h4
      rcases hj with hj | rfl
      · by_cases a1 : j < f + 1 + cnt e
        · exact entries hb e (p + 1) (f + 1) (.free (f + 1)) sm.1 wf.2.2.1 (fun t e => by cases e) h3 n (by omega) j (by by_cases a2 : j = f + 1; exact .inr a2; exact .inl ⟨by omega, a1⟩) en he
        · by_cases a2 : j = f + 1 + cnt e
          · subst a2
            rw [h2] at he
            cases he
            obtain ⟨d, v1, _⟩ := fr_rec wf.2.2.2 (k := .rc [] (some (f + 1 + cnt e + cnt r))) (.done rfl) fr
            exact ⟨_, .kd (v1 n (by omega))⟩
          · exact entries hb r (p + 1 + sz e) (f + 1 + cnt e) (.forced (f + 1 + cnt e + cnt r)) sm.2.1 wf.2.2.2 (fun t _ => sm.2.2) h4 n (by omega) j (by by_cases a3 : j = f + 1 + cnt e + cnt r; exact .inr a3; exact .inl ⟨by omega, by omega⟩) en he
      · rw [h1] at he
        cases he
        cases md with
        | free m =>
          obtain ⟨d, v1, _⟩ := rc_more (m := m) wf (k := .rc [(l, .var (f + 1))] (some (f + 1 + cnt e + cnt r))) (.done rfl) ve fr hs
          exact ⟨_, .kd (v1 n hn)⟩
        | forced t0 =>
          obtain ⟨d, v1, v2, v3⟩ := ve
          obtain ⟨fs', ds, t', j, x, r1, r2, r3, r4, r5, r6⟩ := fr
          have nd : (([(l, Kd.var (f + 1))] ++ fs').map (·.1)).Nodup := by
            show (l :: fs'.map (·.1)).Nodup
            exact List.nodup_cons.mpr ⟨fun z => wf.1 (r3.subset z), r3.nodup (chn_nd wf.2.2.2)⟩
          have ln : fs'.length < 60 := by
            have := r3.length_le
            rw [List.length_map] at this
            have := wf.2.1
            omega
          exact ⟨_, .row ⟨r1 [(l, .var (f + 1))], nd, by show fs'.length + 1 < 64; omega, stlF_srt (.cons (v1 n (by omega)) (r2 n (by omega))) nd⟩⟩
    · rw [if_neg hs] at fin
      obtain ⟨h1, h2, h3, h4⟩ := fin
      rcases hj with hj | rfl
      · by_cases a1 : j < f + 1 + cnt e
        · exact entries hb e (p + 1) (f + 1) (.free (f + 1)) sm.1 wf.2.2.1 (fun t e => by cases e) h3 n (by omega) j (by by_cases a2 : j = f + 1; exact .inr a2; exact .inl ⟨by omega, a1⟩) en he
        · by_cases a2 : j = f + 1 + cnt e + cnt r
          · subst a2
            rw [h2] at he
            cases he
          · exact entries hb r (p + 1 + sz e) (f + 1 + cnt e) (.free (f + 1 + cnt e)) sm.2.1 wf.2.2.2 (fun t e => by cases e) h4 n (by omega) j (by by_cases a3 : j = f + 1 + cnt e; exact .inr a3; exact .inl ⟨by omega, by omega⟩) en he
      · rw [h1] at he
        cases he
  | .lam _ _, _, _, _, sm, _, _, _, _, _, _, _, _, _ => sm.elim
  | .app _ _, _, _, _, sm, _, _, _, _, _, _, _, _, _ => sm.elim
theorem wt_step {k : Kd} {b' : Option Nat} {f x : Nat} (h : kn f = some (.kd k)) (w : Wt kn b' k x) : Wt kn b' (.var f) x := by
  cases w with
  | num a => exact .num (.step h a)
  | var a c => exact .var (.step h a) c
  | fn a c d => exact .fn (.step h a) c d
  | rc a c d e g i => exact .rc (.step h a) c d e g i
theorem stl_step {k d : Kd} {f n : Nat} (h : kn f = some (.kd k)) (w : Stl kn n k d) : Stl kn n (.var f) d := by
  cases w with
  | num a => exact .num (.step h a)
  | var a => exact .var (.step h a)
  | func a c d => exact .func (.step h a) c d
  | rc a c d e g => exact .rc (.step h a) c d e g
/-- how the variable that began an expression is known -/
def Chain (kn : Kn) (f : Nat) : Md → Prop
  | .free m => m = f ∨ kn f = some (.kd (.var m))
  | .forced t => kn f = some (.kd (.rc [] (some t)))
theorem wt_var_f (hb : (∃ x, nm x = some b) → kn b = none) {e : Ex} {p f : Nat} {md : Md} (sm : Sm nm b e) (wf : Wf e) (ir : ∀ t, md = .forced t → isRec e) (ch : Chain kn f md) (fin : Fin kn sel b e p f md) : ∃ x, x ≤ 2 * sz e ∧ Wt kn none (.var f) x := by
  have r := res hb e p f md sm wf ir fin
  cases md with
  | free m =>
    obtain ⟨d, v1, v2, v3⟩ := r
    refine ⟨_, sized_le sel e p false sm, ?_⟩
    rcases ch with rfl | h
    · exact v2
    · exact wt_step h v2
  | forced t =>
    obtain ⟨d, v1, v2⟩ := fr_rec wf (k := .rc [] (some t)) (.done rfl) r
    exact ⟨_, sized_le sel e p true sm, wt_step ch v2⟩
theorem pair_wt (hb : (∃ x, nm x = some b) → kn b = none) : ∀ (e : Ex) (p f : Nat) (md : Md), Sm nm b e → Wf e → (∀ t, md = .forced t → isRec e) → Chain kn f md → Fin kn sel b e p f md →
    ∀ q ∈ selP (asks sk nm e f) p sel, (∃ x, x ≤ 2 * sz e ∧ Wt kn none q.1 x) ∧ ∃ j, q.1 = .var j ∧ f ≤ j
  | .num i, p, f, md, sm, wf, ir, ch, fin, q, hq => by
    have hq : q ∈ (if sel p then [(Kd.var f, Kd.num)] else []) ++ [] := hq
    rw [List.append_nil] at hq
    split at hq
    · rw [List.mem_singleton] at hq
      subst hq
      exact ⟨wt_var_f hb sm wf ir ch fin, f, rfl, Nat.le_refl _⟩
    · cases hq
  | .name x, p, f, md, sm, wf, ir, ch, fin, q, hq => by
    have sm' : nm x = some b := sm
    have ea : asks sk nm (.name x) f = [([(.var f, .var b)], [])] := by simp only [asks, sm']
    rw [ea] at hq
    have hq : q ∈ (if sel p then [(Kd.var f, Kd.var b)] else []) ++ [] := hq
    rw [List.append_nil] at hq
    split at hq
    · rw [List.mem_singleton] at hq
      subst hq
      exact ⟨wt_var_f hb sm wf ir ch fin, f, rfl, Nat.le_refl _⟩
    · cases hq
  | .empty, p, f, md, sm, wf, ir, ch, fin, q, hq => by
    have hq : q ∈ (if sel p then [(Kd.var f, Kd.rc [] none)] else []) ++ [] := hq
    rw [List.append_nil] at hq
    split at hq
    · rw [List.mem_singleton] at hq
      subst hq
      exact ⟨wt_var_f hb sm wf ir ch fin, f, rfl, Nat.le_refl _⟩
    · cases hq
  | .wth l e r, p, f, md, sm, wf, ir, ch, fin, q, hq => by
    have me := wt_var_f hb sm wf ir ch fin
    unfold Fin at fin
    have es : sz (.wth l e r) = sz e + sz r + 1 := rfl
    rw [asks_wth f sm.1 sm.2.1] at hq
    have hq : q ∈ (if sel p then [(Kd.var (f + 1 + cnt e), Kd.rc [] (some (f + 1 + cnt e + cnt r))), (Kd.var f, Kd.rc [(l, .var (f + 1))] (some (f + 1 + cnt e + cnt r)))] else []) ++ selP (asks sk nm e (f + 1) ++ asks sk nm r (f + 1 + cnt e)) (p + 1) sel := hq
    rw [selP_app, asks_len _ sm.1] at hq
    by_cases hs : sel p = true
    · rw [if_pos hs] at fin hq
      obtain ⟨h1, h2, h3, h4⟩ := fin
      rcases List.mem_append.mp hq with hq | hq
      · simp only [List.mem_cons, List.not_mem_nil, or_false] at hq
        rcases hq with rfl | rfl
        · obtain ⟨x, x1, x2⟩ := wt_var_f hb (md := .forced (f + 1 + cnt e + cnt r)) sm.2.1 wf.2.2.2 (fun t _ => sm.2.2) h2 h4
          exact ⟨⟨x, by omega, x2⟩, _, rfl, by omega⟩
        · exact ⟨me, _, rfl, Nat.le_refl _⟩
      · rcases List.mem_append.mp hq with hq | hq
        · obtain ⟨⟨x, x1, x2⟩, j, j1, j2⟩ := pair_wt hb e (p + 1) (f + 1) (.free (f + 1)) sm.1 wf.2.2.1 (fun t e => by cases e) (.inl rfl) h3 q hq
          exact ⟨⟨x, by omega, x2⟩, j, j1, by omega⟩
        · obtain ⟨⟨x, x1, x2⟩, j, j1, j2⟩ := pair_wt hb r (p + 1 + sz e) (f + 1 + cnt e) (.forced (f + 1 + cnt e + cnt r)) sm.2.1 wf.2.2.2 (fun t _ => sm.2.2) h2 h4 q hq
          exact ⟨⟨x, by omega, x2⟩, j, j1, by omega⟩
    · rw [if_neg hs] at fin hq
      obtain ⟨h1, h2, h3, h4⟩ := fin
      rcases List.mem_append.mp hq with hq | hq
      · cases hq
      rcases List.mem_append.mp hq with hq | hq
      · obtain ⟨⟨x, x1, x2⟩, j, j1, j2⟩ := pair_wt hb e (p + 1) (f + 1) (.free (f + 1)) sm.1 wf.2.2.1 (fun t e => by cases e) (.inl rfl) h3 q hq
        exact ⟨⟨x, by omega, x2⟩, j, j1, by omega⟩
      · obtain ⟨⟨x, x1, x2⟩, j, j1, j2⟩ := pair_wt hb r (p + 1 + sz e) (f + 1 + cnt e) (.free (f + 1 + cnt e)) sm.2.1 wf.2.2.2 (fun t e => by cases e) (.inl rfl) h4 q hq
        exact ⟨⟨x, by omega, x2⟩, j, j1, by omega⟩
  | .lam _ _, _, _, _, sm, _, _, _, _, _, _ => sm.elim
  | .app _ _, _, _, _, sm, _, _, _, _, _, _ => sm.elim
/-! ### bounds -/
/-- a want within bounds -/
def PairOk (B : Bd) (q : Kd × Kd) : Prop := (q.1.dp < 4 ∧ q.1.bnd B) ∧ (q.2.dp < 4 ∧ q.2.bnd B) ∧ (∀ m ∈ q.1.nums ++ q.2.nums, m < B.N) ∧ (q.1.nums ++ q.2.nums).length ≤ 6
def AskOk (B : Bd) (a : Ask) : Prop := (∀ q ∈ a.1, PairOk B q) ∧ (∀ x ∈ a.2, x.1 < B.N ∧ B.Tk x.1 ∧ x.2 ∈ B.U ∧ B.Lk x.1 x.2) ∧ a.1.length ≤ 2 ∧ a.2.length ≤ 1
theorem asks_ok {B : Bd} : ∀ (e : Ex) (f : Nat) (c : List Str), Sm nm b e → LkC B e f c → f + cnt e ≤ B.N → ((∃ x, nm x = some b) → b < B.N) → ∀ a ∈ asks sk nm e f, AskOk B a
  | .num i, f, c, sm, lk, le, hb, a, ha => by
    have le : f + 1 ≤ B.N := le
    have ha : a ∈ [([(Kd.var f, Kd.num)], ([] : List (Nat × Str)))] := ha
    rw [List.mem_singleton] at ha
    subst ha
    refine ⟨fun q hq => ?_, (fun x hx => (by cases hx)), (by show 1 ≤ 2; decide), (by show 0 ≤ 1; decide)⟩
    rw [List.mem_singleton] at hq
    subst hq
    refine ⟨⟨by show 0 < 4; decide, trivial⟩, ⟨by show 0 < 4; decide, trivial⟩, fun m hm => ?_, by show 1 ≤ 6; decide⟩
    have hm : m ∈ [f] := hm
    rw [List.mem_singleton] at hm
    omega
  | .name x, f, c, sm, lk, le, hb, a, ha => by
    have le : f + 1 ≤ B.N := le
    have sm : nm x = some b := sm
    have ea : asks sk nm (.name x) f = [([(.var f, .var b)], [])] := by simp only [asks, sm]
    rw [ea, List.mem_singleton] at ha
    subst ha
    have hb := hb ⟨x, sm⟩
    refine ⟨fun q hq => ?_, (fun x hx => (by cases hx)), (by show 1 ≤ 2; decide), (by show 0 ≤ 1; decide)⟩
    rw [List.mem_singleton] at hq
    subst hq
    refine ⟨⟨by show 0 < 4; decide, trivial⟩, ⟨by show 0 < 4; decide, trivial⟩, fun m hm => ?_, by show 2 ≤ 6; decide⟩
    have hm : m ∈ [f, b] := hm
    simp only [List.mem_cons, List.not_mem_nil, or_false] at hm
    omega
  | .empty, f, c, sm, lk, le, hb, a, ha => by
    have le : f + 1 ≤ B.N := le
    have ha : a ∈ [([(Kd.var f, Kd.rc [] none)], ([] : List (Nat × Str)))] := ha
    rw [List.mem_singleton] at ha
    subst ha
    refine ⟨fun q hq => ?_, (fun x hx => (by cases hx)), (by show 1 ≤ 2; decide), (by show 0 ≤ 1; decide)⟩
    rw [List.mem_singleton] at hq
    subst hq
    refine ⟨⟨by show 0 < 4; decide, trivial⟩, ⟨by show 0 + 1 < 4; decide, fun n e => (by cases e), trivial⟩, fun m hm => ?_, by show 1 ≤ 6; decide⟩
    have hm : m ∈ [f] := hm
    rw [List.mem_singleton] at hm
    omega
  | .wth l e r, f, c, sm, lk, le, hb, a, ha => by
    have le : f + (cnt e + cnt r + 2) ≤ B.N := le
    obtain ⟨k1, k2, k3, k4, k5, k6, k7⟩ := lk
    rw [asks_wth f sm.1 sm.2.1] at ha
    rcases List.mem_cons.mp ha with rfl | ha
    · refine ⟨fun q hq => ?_, fun x hx => ?_, by show 2 ≤ 2; decide, by show 1 ≤ 1; decide⟩
      · simp only [List.mem_cons, List.not_mem_nil, or_false] at hq
        rcases hq with rfl | rfl
        · refine ⟨⟨by show 0 < 4; decide, trivial⟩, ⟨by show 0 + 1 < 4; decide, fun n e => (by cases e; exact ⟨by omega, k4⟩), trivial⟩, fun m hm => ?_, by show 2 ≤ 6; decide⟩
          have hm : m ∈ [f + 1 + cnt e, f + 1 + cnt e + cnt r] := hm
          simp only [List.mem_cons, List.not_mem_nil, or_false] at hm
          omega
        · refine ⟨⟨by show 0 < 4; decide, trivial⟩, ⟨by show max 0 0 + 1 < 4; decide, fun n e => (by cases e; exact ⟨by omega, k4⟩), ⟨fun n e => (by cases e; exact ⟨k2, (k5 l).mpr (.inl rfl)⟩), trivial, trivial⟩⟩, fun m hm => ?_, by show 3 ≤ 6; decide⟩
          have hm : m ∈ [f, f + 1, f + 1 + cnt e + cnt r] := hm
          simp only [List.mem_cons, List.not_mem_nil, or_false] at hm
          omega
      · rw [List.mem_singleton] at hx
        subst hx
        exact ⟨by show f + 1 + cnt e + cnt r < B.N; omega, k4, k2, (k5 l).mpr (.inl rfl)⟩
    · rcases List.mem_append.mp ha with ha | ha
      · exact asks_ok e (f + 1) [] sm.1 k6 (by omega) hb a ha
      · exact asks_ok r (f + 1 + cnt e) (l :: c) sm.2.1 k7 (by omega) hb a ha
  | .lam _ _, _, _, sm, _, _, _, _, _ => sm.elim
  | .app _ _, _, _, sm, _, _, _, _, _ => sm.elim
def tls : Ex → Nat → List Nat
  | .wth _ e r, f => (f + 1 + cnt e + cnt r) :: (tls e (f + 1) ++ tls r (f + 1 + cnt e))
  | _, _ => []
theorem tls_known : ∀ (e : Ex) (p f : Nat) (md : Md), Sm nm b e → allS sel e p → Fin kn sel b e p f md → ((∀ t, md = .forced t → isRec e → kn t ≠ none) ∧ ∀ t ∈ tls e f, kn t ≠ none)
  | .num i, p, f, md, sm, al, fin => ⟨(fun t e h => h.elim), (fun t h => (by cases h))⟩
  | .name x, p, f, md, sm, al, fin => ⟨(fun t e h => h.elim), (fun t h => (by cases h))⟩
  | .empty, p, f, md, sm, al, fin => by
    have hs := al p (Nat.le_refl _) (by show p < p + 1; omega)
    have fin : kn md.tg = if sel p then some (md.own [] none) else none := fin
    rw [if_pos hs] at fin
    exact ⟨(fun t e h => (by subst e; intro z; rw [show kn t = _ from fin] at z; cases z)), (fun t h => (by cases h))⟩
  | .wth l e r, p, f, md, sm, al, fin => by
    have hs := al p (Nat.le_refl _) (by show p < p + (sz e + sz r + 1); omega)
    unfold Fin at fin
    rw [if_pos hs] at fin
    obtain ⟨h1, h2, h3, h4⟩ := fin
    have a1 : allS sel e (p + 1) := fun q a1 a2 => al q (by omega) (by show q < p + (sz e + sz r + 1); omega)
    have a2 : allS sel r (p + 1 + sz e) := fun q a1 a2 => al q (by omega) (by show q < p + (sz e + sz r + 1); omega)
    have i1 := tls_known e (p + 1) (f + 1) (.free (f + 1)) sm.1 a1 h3
    have i2 := tls_known r (p + 1 + sz e) (f + 1 + cnt e) (.forced (f + 1 + cnt e + cnt r)) sm.2.1 a2 h4
    refine ⟨(fun t e _ => (by subst e; intro z; rw [show kn t = _ from h1] at z; cases z)), fun t ht => ?_⟩
    rcases List.mem_cons.mp ht with rfl | ht
    · exact i2.1 _ rfl sm.2.2
    rcases List.mem_append.mp ht with ht | ht
    · exact i1.2 t ht
    · exact i2.2 t ht
  | .lam _ _, _, _, _, sm, _, _ => sm.elim
  | .app _ _, _, _, _, sm, _, _ => sm.elim
/-! ### the labels that tails may be told to lack -/
def lbl : Ex → Nat → List Str → Nat → List Str
  | .wth l e r, f, c, n => if n = f + 1 + cnt e + cnt r then l :: c else if n < f + 1 + cnt e then lbl e (f + 1) [] n else lbl r (f + 1 + cnt e) (l :: c) n
  | _, _, _, _ => []
/-- labels: all known texts, none twice in a chain -/
def LbOk (U : List Str) : Ex → List Str → Prop
  | .wth l e r, c => l ∉ c ∧ l ∈ U ∧ PyData.strOk l = true ∧ LbOk U e [] ∧ LbOk U r (l :: c)
  | _, _ => True
theorem lkc_of {B : Bd} : ∀ (e : Ex) (f : Nat) (c : List Str), Sm nm b e → LbOk B.U e c → (∀ n, n ∈ tls e f → B.Tk n) → (∀ n l', f ≤ n → n < f + cnt e → (B.Lk n l' ↔ l' ∈ lbl e f c n)) → LkC B e f c
  | .num _, _, _, _, _, _, _ => trivial
  | .name _, _, _, _, _, _, _ => trivial
  | .empty, _, _, _, _, _, _ => trivial
  | .wth l e r, f, c, sm, lo, ht, hl => by
    have hl : ∀ n l', f ≤ n → n < f + (cnt e + cnt r + 2) → (B.Lk n l' ↔ l' ∈ lbl (.wth l e r) f c n) := hl
    obtain ⟨o1, o2, o3, o4, o5⟩ := lo
    refine ⟨o1, o2, o3, ht _ List.mem_cons_self, fun l' => ?_, lkc_of e (f + 1) [] sm.1 o4 (fun n hn => ht n (List.mem_cons_of_mem _ (List.mem_append_left _ hn))) fun n l' a1 a2 => ?_, lkc_of r (f + 1 + cnt e) (l :: c) sm.2.1 o5 (fun n hn => ht n (List.mem_cons_of_mem _ (List.mem_append_right _ hn))) fun n l' a1 a2 => ?_⟩
    · rw [hl _ l' (by omega) (by omega)]
      show l' ∈ (if _ then _ else _) ↔ _
      rw [if_pos rfl, List.mem_cons]
    · rw [hl n l' (by omega) (by omega)]
      show l' ∈ (if _ then _ else if _ then _ else _) ↔ _
      rw [if_neg (by omega), if_pos (by omega)]
    · rw [hl n l' (by omega) (by omega)]
      show l' ∈ (if _ then _ else if _ then _ else _) ↔ _
      rw [if_neg (by omega), if_neg (by omega)]
  | .lam _ _, _, _, sm, _, _, _ => sm.elim
  | .app _ _, _, _, sm, _, _, _ => sm.elim
end
end Fw
/-! Fm5: plain: main's wants, as far as they are chosen. -/
namespace Fw
open PySem PySem.Spec PyProof.Rows L2
def lo2 (a b : Str) : Str := if ltS a b then a else b
def hi2 (a b : Str) : Str := if ltS a b then b else a
theorem lo_hi {a b : Str} (h : a ≠ b) : ltS (lo2 a b) (hi2 a b) := by
  unfold lo2 hi2
  by_cases z : ltS a b
  · rw [if_pos z, if_pos z]; exact z
  · rw [if_neg z, if_neg z]; exact ltS_tri z (fun e => h e.symm)
theorem srt2 {α : Type} {a b : Str} (x : α) (h : a ≠ b) : srt [(a, x), (b, x)] = [(lo2 a b, x), (hi2 a b, x)] := by
  refine (srt_of (gs := [(lo2 a b, x), (hi2 a b, x)]) ?_ ?_).symm
  · unfold lo2 hi2
    by_cases z : ltS a b
    · rw [if_pos z, if_pos z]
    · rw [if_neg z, if_neg z]; exact List.Perm.swap _ _ _
  · refine List.pairwise_cons.mpr ⟨fun y hy => ?_, List.pairwise_singleton _ _⟩
    rw [List.mem_singleton] at hy
    rw [hy]
    exact lo_hi h
theorem srt_id {α : Type} {a b : Str} (x : α) (h : ltS a b) : srt [(a, x), (b, x)] = [(a, x), (b, x)] := by
  refine (srt_of (gs := [(a, x), (b, x)]) (.refl _) ?_).symm
  refine List.pairwise_cons.mpr ⟨fun y hy => ?_, List.pairwise_singleton _ _⟩
  rw [List.mem_singleton] at hy
  rw [hy]
  exact h
theorem cnt_le {nm : Nm} {b : Nat} : ∀ {e : Ex}, Sm nm b e → cnt e ≤ 2 * sz e
  | .num _, _ => by show 1 ≤ 2 * 1; decide
  | .name _, _ => by show 1 ≤ 2 * 1; decide
  | .empty, _ => by show 1 ≤ 2 * 1; decide
  | .wth l e r, h => by
    have h1 := cnt_le h.1
    have h2 := cnt_le h.2.1
    show cnt e + cnt r + 2 ≤ 2 * (sz e + sz r + 1)
    omega
  | .lam _ _, h => h.elim
  | .app _ _, h => h.elim
theorem selP_len {B : Bd} {sel : Nat → Bool} : ∀ {as : List Ask} {p : Nat}, (∀ a ∈ as, AskOk B a) → (selP as p sel).length ≤ 2 * as.length ∧ (selL as p sel).length ≤ as.length
  | [], _, _ => ⟨Nat.le_refl _, Nat.le_refl _⟩
  | a :: r, p, h => by
    obtain ⟨h1, h2⟩ := selP_len (sel := sel) (p := p + 1) (as := r) fun a ha => h a (List.mem_cons_of_mem _ ha)
    obtain ⟨_, _, a1, a2⟩ := h a List.mem_cons_self
    simp only [selP, selL, List.length_append, List.length_cons]
    constructor
    · split
      · omega
      · simp only [List.length_nil]; omega
    · split
      · omega
      · simp only [List.length_nil]; omega
theorem numsL_flat {B : Bd} : ∀ {qs : List (Kd × Kd)}, (∀ q ∈ qs, PairOk B q) → (numsL (flatP qs)).length ≤ 6 * qs.length ∧ ∀ m ∈ numsL (flatP qs), m < B.N
  | [], _ => ⟨Nat.le_refl _, fun m h => by cases h⟩
  | (a, b) :: r, h => by
    obtain ⟨h1, h2⟩ := numsL_flat (qs := r) fun q hq => h q (List.mem_cons_of_mem _ hq)
    obtain ⟨_, _, b1, b2⟩ := h (a, b) List.mem_cons_self
    have b2 : (a.nums ++ b.nums).length ≤ 6 := b2
    have e : numsL (flatP ((a, b) :: r)) = a.nums ++ (b.nums ++ numsL (flatP r)) := rfl
    rw [e]
    simp only [List.length_append, List.length_cons] at b2 ⊢
    refine ⟨by omega, fun m hm => ?_⟩
    rw [← List.append_assoc] at hm
    rcases List.mem_append.mp hm with hm | hm
    · exact b1 m hm
    · exact h2 m hm
theorem numsL_lks : ∀ (lks : List (Nat × Str)), numsL (lks.map fun e => Kd.rc [] (some e.1)) = lks.map (·.1)
  | [] => rfl
  | x :: r => by
    show [] ++ [x.1] ++ numsL _ = x.1 :: _
    rw [numsL_lks r]
    rfl
/-- all bounds of a choice, from those of the asks -/
theorem sol_of {B : Bd} {as : List Ask} {sel : Nat → Bool} {kn : Kn} {wt : Kd → Nat} {g : Nat → En} (ok : ∀ a ∈ as, AskOk B a) (ln : as.length ≤ 200) (bN : B.N ≤ 1000) (bU : B.U.length ≤ 50) (mw : Mws B (fun _ => none) (selP as 0 sel) kn)
    (hw : ∀ p ∈ selP as 0 sel, Wt kn none p.1 (wt p.1) ∧ wt p.1 ≤ 10000) (hs : ∀ m e, kn m = some e → StlE kn 6 e (g m)) : SolC B (selP as 0 sel) (selL as 0 sel) kn wt g := by
  have pk : ∀ q ∈ selP as 0 sel, PairOk B q := fun q hq => by
    obtain ⟨a, ha, hq⟩ := selP_mem hq
    exact (ok a ha).1 q hq
  have lk : ∀ x ∈ selL as 0 sel, x.1 < B.N ∧ B.Tk x.1 ∧ x.2 ∈ B.U ∧ B.Lk x.1 x.2 := fun x hx => by
    obtain ⟨a, ha, hx⟩ := selL_mem hx
    exact (ok a ha).2.1 x hx
  obtain ⟨l1, l2⟩ := selP_len (sel := sel) (p := 0) ok
  obtain ⟨n1, n2⟩ := numsL_flat pk
  have en : numsL (kindsOf (selP as 0 sel) (selL as 0 sel)) = (selL as 0 sel).map (·.1) ++ numsL (flatP (selP as 0 sel)) := by
    unfold kindsOf
    rw [numsL_append, numsL_lks]
  refine ⟨fun k hk => ?_, fun t l h => lk (t, l) h, ?_, fun m hm => ?_, by omega, by omega, ?_, by omega, by omega, mw, hw, hs⟩
  · obtain ⟨p, hp, h⟩ := flatP_mem hk
    obtain ⟨p1, p2, _⟩ := pk p hp
    rcases h with rfl | rfl
    · exact p1
    · exact p2
  · rw [en, List.length_append, List.length_map]
    omega
  · rw [en] at hm
    rcases List.mem_append.mp hm with hm | hm
    · obtain ⟨x, hx, rfl⟩ := List.mem_map.mp hm
      exact (lk x hx).1
    · exact n2 m hm
  · exact Nat.le_trans (Nat.mul_le_mul bN bU) (by decide)
/-! ### main -/
/-- what main hands to the def -/
structure MainH (E : Ex) (U : List Str) (l0 l1 : Str) : Prop where
  sm : Sm nm0 0 E
  wf : Wf E
  lb : LbOk U E []
  sz : sz E ≤ 80
  fu : fuel E ≤ 3
  dpX : E.dp ≤ 12
  dpE : (kdE 0 E).dp ≤ 2
  bU : U.length ≤ 50
  ne : l0 ≠ l1
  u0 : l0 ∈ U
  u1 : l1 ∈ U
  s0 : PyData.strOk l0 = true
  s1 : PyData.strOk l1 = true
/-- the def's scheme -/
def skD (l0 l1 : Str) : Kd := .fn (.var 0) (.rc [(lo2 l0 l1, .var 0), (hi2 l0 l1, .var 0)] none)
def rcD (l0 l1 : Str) (x : Kd) : Kd := .rc [(lo2 l0 l1, x), (hi2 l0 l1, x)] none
theorem skD_sub (l0 l1 : Str) : (skD l0 l1).sub (s0 2) = .fn (.var 2) (rcD l0 l1 (.var 2)) := rfl
def exM (n1 : Str) (E : Ex) : Ex := .app (.name n1) E
theorem asks_main (n1 l0 l1 : Str) (E : Ex) : asks (skD l0 l1) nm0 (exM n1 E) 0 = ([(.var 1, .fn (.var 3) (.var 0))], []) :: ([(.var 1, .fn (.var 2) (rcD l0 l1 (.var 2)))], []) :: asks (skD l0 l1) nm0 E 3 := rfl
theorem spots_main (n1 : Str) (E : Ex) : spots nm0 (exM n1 E) 0 = 0 :: 1 :: spots nm0 E 3 := rfl
def bdM (E : Ex) (U : List Str) : Bd := ⟨3 + cnt E, U, fun n => n ∈ tls E 3, fun n l => l ∈ lbl E 3 [] n⟩
section
variable {E : Ex} {U : List Str} {l0 l1 : Str}
theorem nonm : ¬ ∃ x, nm0 x = some 0 := fun ⟨x, h⟩ => by cases h
theorem lkc_main (h : MainH E U l0 l1) : LkC (bdM E U) E 3 [] := lkc_of E 3 [] h.sm h.lb (fun n hn => hn) fun n l' _ _ => Iff.rfl
theorem ask_main (h : MainH E U l0 l1) (n1 : Str) : ∀ a ∈ asks (skD l0 l1) nm0 (exM n1 E) 0, AskOk (bdM E U) a := by
  have cp := cnt_pos h.sm
  intro a ha
  rw [asks_main] at ha
  rcases List.mem_cons.mp ha with rfl | ha
  · refine ⟨fun q hq => ?_, (fun x hx => (by cases hx)), (by show 1 ≤ 2; decide), (by show 0 ≤ 1; decide)⟩
    rw [List.mem_singleton] at hq
    subst hq
    refine ⟨⟨by show 0 < 4; decide, trivial⟩, ⟨by show max 0 0 + 1 < 4; decide, trivial, trivial⟩, fun m hm => ?_, by show 3 ≤ 6; decide⟩
    have hm : m ∈ [1, 3, 0] := hm
    simp only [List.mem_cons, List.not_mem_nil, or_false] at hm
    show m < 3 + cnt E
    omega
  rcases List.mem_cons.mp ha with rfl | ha
  · refine ⟨fun q hq => ?_, (fun x hx => (by cases hx)), (by show 1 ≤ 2; decide), (by show 0 ≤ 1; decide)⟩
    rw [List.mem_singleton] at hq
    subst hq
    refine ⟨⟨by show 0 < 4; decide, trivial⟩, ⟨by show max 0 (max 0 (max 0 0) + 1) + 1 < 4; decide, trivial, (fun n e => (by cases e)), (fun n e => (by cases e)), trivial, (fun n e => (by cases e)), trivial, trivial⟩, fun m hm => ?_, by show 4 ≤ 6; decide⟩
    have hm : m ∈ [1, 2, 2, 2] := hm
    simp only [List.mem_cons, List.not_mem_nil, or_false] at hm
    show m < 3 + cnt E
    omega
  · exact asks_ok E 3 [] h.sm (lkc_main h) (Nat.le_refl _) (fun z => absurd z nonm) a ha
theorem shaped_fn (a c : Nat) : SeqAt.shaped (Kd.fn (.var a) (.var c)).dat = true := by
  simp only [Kd.dat, SeqAt.shaped, PyData.canLay0, PyData.canLayAll0, PyData.depth, PyData.depthAll]
  decide +kernel
theorem ok_lo {l0 l1 : Str} (h0 : PyData.strOk l0 = true) (h1 : PyData.strOk l1 = true) : PyData.strOk (lo2 l0 l1) = true ∧ PyData.strOk (hi2 l0 l1) = true := by
  unfold lo2 hi2
  split
  · exact ⟨h0, h1⟩
  · exact ⟨h1, h0⟩
theorem shaped_rcD (h0 : PyData.strOk l0 = true) (h1 : PyData.strOk l1 = true) (m : Nat) : SeqAt.shaped (rcD l0 l1 (.var m)).dat = true := by
  obtain ⟨a, b⟩ := ok_lo h0 h1
  unfold rcD
  simp only [Kd.dat, datF, tD, SeqAt.shaped, PyData.canLay0, PyData.canLayAll0, PyData.depth, PyData.depthAll, a, b]
  decide +kernel
theorem shaped_fnD (h0 : PyData.strOk l0 = true) (h1 : PyData.strOk l1 = true) (m : Nat) : SeqAt.shaped (Kd.fn (.var m) (rcD l0 l1 (.var m))).dat = true := by
  obtain ⟨a, b⟩ := ok_lo h0 h1
  unfold rcD
  simp only [Kd.dat, datF, tD, SeqAt.shaped, PyData.canLay0, PyData.canLayAll0, PyData.depth, PyData.depthAll, a, b]
  decide +kernel
theorem wt_rcD {kn : Kn} {b : Option Nat} {k : Kd} {i x : Nat} {l0 l1 : Str} {y : Kd} (ne : l0 ≠ l1) (hl : Lup kn k (rcD l0 l1 y) i) (w : Wt kn b y x) : Wt kn b k (4 + x + x) := by
  have h := Wt.rc (b := b) hl (.done fun n e => by cases e) (by
    show [lo2 l0 l1, hi2 l0 l1].Nodup
    refine List.nodup_cons.mpr ⟨fun z => ?_, by simp⟩
    rw [List.mem_singleton] at z
    have := lo_hi ne
    rw [z] at this
    exact ltS_irr _ this) (by show 2 ≤ 1000; decide) (fun n e => by cases e) (.cons w (.cons w .nil))
  have e : 2 + [(lo2 l0 l1, y), (hi2 l0 l1, y)].length + (x + (x + 0)) = 4 + x + x := by simp only [List.length_cons, List.length_nil]; omega
  rw [← e]
  exact h
theorem stl_rcD {kn : Kn} {k d : Kd} {i n : Nat} {l0 l1 : Str} {y : Kd} (ne : l0 ≠ l1) (hl : Lup kn k (rcD l0 l1 y) i) (w : Stl kn n y d) : Stl kn (n + 1) k (rcD l0 l1 d) := by
  refine Stl.rc hl (.done fun n e => by cases e) (by
    show [lo2 l0 l1, hi2 l0 l1].Nodup
    refine List.nodup_cons.mpr ⟨fun z => ?_, by simp⟩
    rw [List.mem_singleton] at z
    have := lo_hi ne
    rw [z] at this
    exact ltS_irr _ this) (by show 2 < 64; decide) ?_
  rw [srt_id _ (lo_hi ne)]
  exact .cons w (.cons w .nil)
end
end Fw
/-! Fm6: plain: main's wants are solved. -/
namespace Fw
open PySem PySem.Spec PyProof.Rows L2
abbrev kn0 : Kn := fun _ => none
def manyS (sel : Nat → Bool) (E : Ex) : Nat := if sel 0 = true ∧ sel 1 = true then 3 * sized sel E 2 false + 5 else 0
section
variable {E : Ex} {U : List Str} {l0 l1 : Str} {sel : Nat → Bool}
def k1T : Kn := kn0.put 1 (.kd (.fn (.var 3) (.var 0)))
def k1F (l0 l1 : Str) : Kn := kn0.put 1 (.kd (.fn (.var 2) (rcD l0 l1 (.var 2))))
def k3T (l0 l1 : Str) : Kn := (k1T.put 0 (.kd (rcD l0 l1 (.var 2)))).put 3 (.kd (.var 2))
def rootP (sel : Nat → Bool) (l0 l1 : Str) : List (Kd × Kd) := (if sel 0 then [(.var 1, .fn (.var 3) (.var 0))] else []) ++ (if sel 1 then [(.var 1, .fn (.var 2) (rcD l0 l1 (.var 2)))] else [])
theorem pre_main {kn : Kn} {m : Nat} (h : MainH E U l0 l1) (h1 : ∀ j, 3 < j → kn j = none) (h2 : kn m = none) (h3 : m = 3 ∨ (m < 3 ∧ kn 3 = some (.kd (.var m)))) : Pre (bdM E U) nm0 kn 0 E 3 [] (.free m) := by
  have cp := cnt_pos h.sm
  refine ⟨fun j a _ => h1 j a, fun z => absurd z nonm, h2, ?_, Nat.le_refl _, fun m' e => ?_, fun t e => by cases e⟩
  · show m < 3 + cnt E
    rcases h3 with h3 | ⟨h3, _⟩ <;> omega
  · cases e
    exact h3
theorem root_main (h : MainH E U l0 l1) : ∃ kn m, Mws (bdM E U) kn0 (rootP sel l0 l1) kn ∧ Pre (bdM E U) nm0 kn 0 E 3 [] (.free m) ∧
    ((sel 0 = true ∧ sel 1 = true ∧ m = 2 ∧ kn = k3T l0 l1) ∨ (sel 0 = true ∧ ¬ sel 1 = true ∧ m = 3 ∧ kn = k1T) ∨ (¬ sel 0 = true ∧ sel 1 = true ∧ m = 3 ∧ kn = k1F l0 l1) ∨ (¬ sel 0 = true ∧ ¬ sel 1 = true ∧ m = 3 ∧ kn = kn0)) := by
  have cp := cnt_pos h.sm
  have N1 : 1 < (bdM E U).N := by show 1 < 3 + cnt E; omega
  have N0 : 0 < (bdM E U).N := by show 0 < 3 + cnt E; omega
  have N3 : 3 < (bdM E U).N := by show 3 < 3 + cnt E; omega
  have p0 : Mw (bdM E U) kn0 [(.var 1, .fn (.var 3) (.var 0))] 1 k1T := mw1 (.unk rfl) (.done rfl) (.fill (x := 3) (by intro z; cases z) (Wt.fn (x := 1) (y := 1) (.done rfl) (wt_var rfl (by decide)) (wt_var rfl (by decide))) (by decide) N1 (shaped_fn _ _))
  by_cases a : sel 0 = true
  · by_cases c : sel 1 = true
    · refine ⟨k3T l0 l1, 2, ?_, pre_main h (fun j hj => ?_) rfl (.inr ⟨by decide, rfl⟩), .inl ⟨a, c, rfl, rfl⟩⟩
      · have e : rootP sel l0 l1 = [(.var 1, .fn (.var 3) (.var 0)), (.var 1, .fn (.var 2) (rcD l0 l1 (.var 2)))] := by
          unfold rootP
          rw [if_pos a, if_pos c]
          rfl
        rw [e]
        refine .cons p0 (by decide) (.cons (n := 3) ?_ (by decide) .nil)
        refine Mw.step (ws := []) (more := [(.var 3, .var 2), (.var 0, rcD l0 l1 (.var 2))]) (.step (k := .fn (.var 3) (.var 0)) rfl (.done rfl)) (.done rfl) .func ?_
        refine Mw.step (ws := [(.var 3, .var 2)]) (more := []) (.unk rfl) (.done rfl) (.fill (x := 6) (by intro z; cases z) (wt_rcD (x := 1) h.ne (.done rfl) (wt_var rfl (by decide))) (by decide) N0 (shaped_rcD h.s0 h.s1 2)) ?_
        refine Mw.step (ws := []) (more := []) (.unk rfl) (.unk rfl) (.fill (x := 1) (by intro z; cases z) (wt_var rfl (by decide)) (by decide) N3 (shaped_var 2)) .nil
      · show k3T l0 l1 j = none
        unfold k3T k1T
        rw [put_ne (by omega), put_ne (by omega), put_ne (by omega)]
    · refine ⟨k1T, 3, ?_, pre_main h (fun j hj => ?_) rfl (.inl rfl), .inr (.inl ⟨a, c, rfl, rfl⟩)⟩
      · have e : rootP sel l0 l1 = [(.var 1, .fn (.var 3) (.var 0))] := by
          unfold rootP
          rw [if_pos a, if_neg c]
          rfl
        rw [e]
        exact .cons p0 (by decide) .nil
      · unfold k1T
        rw [put_ne (by omega)]
  · by_cases c : sel 1 = true
    · refine ⟨k1F l0 l1, 3, ?_, pre_main h (fun j hj => ?_) rfl (.inl rfl), .inr (.inr (.inl ⟨a, c, rfl, rfl⟩))⟩
      · have e : rootP sel l0 l1 = [(.var 1, .fn (.var 2) (rcD l0 l1 (.var 2)))] := by
          unfold rootP
          rw [if_neg a, if_pos c]
          rfl
        rw [e]
        exact mws1 (.unk rfl) (.done rfl) (.fill (x := 1 + 1 + (4 + 1 + 1)) (by intro z; cases z) (Wt.fn (.done rfl) (wt_var rfl (by decide)) (wt_rcD (x := 1) h.ne (.done rfl) (wt_var rfl (by decide)))) (by decide) N1 (shaped_fnD h.s0 h.s1 2))
      · unfold k1F
        rw [put_ne (by omega)]
    · refine ⟨kn0, 3, ?_, pre_main h (fun j hj => rfl) rfl (.inl rfl), .inr (.inr (.inr ⟨a, c, rfl, rfl⟩))⟩
      have e : rootP sel l0 l1 = [] := by
        unfold rootP
        rw [if_neg a, if_neg c]
        rfl
      rw [e]
      exact .nil
theorem main_sol (h : MainH E U l0 l1) (n1 : Str) (sel : Nat → Bool) : ∃ kn wt g, SolC (bdM E U) (selP (asks (skD l0 l1) nm0 (exM n1 E) 0) 0 sel) (selL (asks (skD l0 l1) nm0 (exM n1 E) 0) 0 sel) kn wt g ∧
    (manyS sel E ≤ 200 → ∀ p ∈ selP (asks (skD l0 l1) nm0 (exM n1 E) 0) 0 sel, wt p.1 ≤ 200) ∧ (200 < manyS sel E → ∃ p ∈ selP (asks (skD l0 l1) nm0 (exM n1 E) 0) 0 sel, 200 < wt p.1) ∧
    (sel 0 = true → sel 1 = true → allS sel E 2 → (∀ t ∈ tls E 3, kn t ≠ none) ∧ kn 0 ≠ none ∧ g 0 = .kd (rcD l0 l1 (kdE 0 E))) := by
  have cp := cnt_pos h.sm
  have cl := cnt_le h.sm
  have hsz := h.sz
  have hfu := h.fu
  obtain ⟨kn2, m, mw2, pre, cas⟩ := root_main (sel := sel) h
  obtain ⟨kn, mw3, post⟩ := proc (sk := skD l0 l1) sel E 2 3 [] (.free m) kn2 h.sm (lkc_main h) pre
  have hb : (∃ x, nm0 x = some 0) → kn 0 = none := fun z => absurd z nonm
  have fin := post.fin
  have V : V1 kn sel 0 E 2 m := res hb E 2 3 (.free m) h.sm h.wf (fun t e => by cases e) fin
  have ent := entries hb E 2 3 (.free m) h.sm h.wf (fun t e => by cases e) fin 6 (by omega)
  have out : ∀ j, j < 3 → j ≠ m → kn j = kn2 j := fun j h1 h2 => post.out j (by omega) h2
  have at3 : m ≠ 3 → kn 3 = kn2 3 := fun z => post.at' z
  have far : ∀ j, 3 + cnt E ≤ j → m ≤ 3 → kn j = kn2 j := fun j h1 h2 => post.out j (by omega) (by show j ≠ m; omega)
  have ch : Chain kn 3 (.free m) := by
    rcases cas with ⟨_, _, rfl, rfl⟩ | ⟨_, _, rfl, _⟩ | ⟨_, _, rfl, _⟩ | ⟨_, _, rfl, _⟩
    · exact .inr (by rw [at3 (by decide)]; rfl)
    · exact .inl rfl
    · exact .inl rfl
    · exact .inl rfl
  have pw := pair_wt (sk := skD l0 l1) hb E 2 3 (.free m) h.sm h.wf (fun t e => by cases e) ch fin
  obtain ⟨d, v1, v2, v3⟩ := V
  have hA := sized_le sel E 2 false h.sm
  -- the weight of 1, the entries at the root
  obtain ⟨W1, w1, w2, w3, w4, w5⟩ : ∃ W1, ((sel 0 = true ∨ sel 1 = true) → Wt kn none (.var 1) W1) ∧ W1 ≤ 10000 ∧ (manyS sel E ≤ 200 → W1 ≤ 200) ∧ (200 < manyS sel E → 200 < W1 ∧ sel 0 = true) ∧
      ∀ j en, ¬ ((3 < j ∧ j < 3 + cnt E) ∨ j = m) → kn j = some en → ∃ en', StlE kn 6 en en' ∧ (j = 0 → sel 0 = true → sel 1 = true → en' = .kd (rcD l0 l1 d)) := by
    rcases cas with ⟨a, c, rfl, rfl⟩ | ⟨a, c, rfl, rfl⟩ | ⟨a, c, rfl, rfl⟩ | ⟨a, c, rfl, rfl⟩
    · have e1 : kn 1 = some (.kd (.fn (.var 3) (.var 0))) := by rw [out 1 (by decide) (by decide)]; rfl
      have e0 : kn 0 = some (.kd (rcD l0 l1 (.var 2))) := by rw [out 0 (by decide) (by decide)]; rfl
      have e3 : kn 3 = some (.kd (.var 2)) := by rw [at3 (by decide)]; rfl
      have em : manyS sel E = 3 * sized sel E 2 false + 5 := if_pos ⟨a, c⟩
      have wv0 : Wt kn none (.var 0) (4 + sized sel E 2 false + sized sel E 2 false) := wt_rcD h.ne (.step e0 (.done rfl)) v2
      refine ⟨1 + sized sel E 2 false + (4 + sized sel E 2 false + sized sel E 2 false), fun _ => .fn (.step e1 (.done rfl)) (wt_step e3 v2) wv0, by omega, fun z => by omega, fun z => ⟨by omega, a⟩, fun j en hj he => ?_⟩
      by_cases j0 : j = 0
      · subst j0
        rw [e0] at he
        cases he
        exact ⟨_, .kd (stl_rcD h.ne (.done rfl) (v1 5 (by omega))), fun _ _ _ => rfl⟩
      by_cases j1 : j = 1
      · subst j1
        rw [e1] at he
        cases he
        exact ⟨_, .kd (.func (.done rfl) (stl_step e3 (v1 5 (by omega))) (stl_rcD h.ne (.step e0 (.done rfl)) (v1 4 (by omega)))), fun z => absurd z (by decide)⟩
      by_cases j3 : j = 3
      · subst j3
        rw [e3] at he
        cases he
        exact ⟨_, .kd (v1 6 (by omega)), fun z => absurd z (by decide)⟩
      · have : kn j = none := by
          rw [far j (by omega) (by decide)]
          show k3T l0 l1 j = none
          unfold k3T k1T
          rw [put_ne (by omega), put_ne (by omega), put_ne (by omega)]
        rw [this] at he
        cases he
    · have e1 : kn 1 = some (.kd (.fn (.var 3) (.var 0))) := by rw [out 1 (by decide) (by decide)]; rfl
      have e0 : kn 0 = none := by rw [out 0 (by decide) (by decide)]; rfl
      have em : manyS sel E = 0 := if_neg fun z => c z.2
      refine ⟨1 + sized sel E 2 false + 1, fun _ => .fn (.step e1 (.done rfl)) v2 (wt_var e0 (by intro z; cases z)), by omega, fun z => by omega, fun z => by omega, fun j en hj he => ?_⟩
      by_cases j1 : j = 1
      · subst j1
        rw [e1] at he
        cases he
        exact ⟨_, .kd (.func (.done rfl) (v1 5 (by omega)) (.var (.unk e0))), fun z => absurd z (by decide)⟩
      · have : kn j = none := by
          by_cases lt : j < 3
          · rw [out j lt (by omega)]
            unfold k1T
            rw [put_ne (by omega)]
          · rw [far j (by omega) (by decide)]
            unfold k1T
            rw [put_ne (by omega)]
        rw [this] at he
        cases he
    · have e1 : kn 1 = some (.kd (.fn (.var 2) (rcD l0 l1 (.var 2)))) := by rw [out 1 (by decide) (by decide)]; rfl
      have e2 : kn 2 = none := by rw [out 2 (by decide) (by decide)]; rfl
      have em : manyS sel E = 0 := if_neg fun z => a z.1
      have wv : Wt kn none (.var 2) 1 := wt_var e2 (by intro z; cases z)
      refine ⟨1 + 1 + (4 + 1 + 1), fun _ => .fn (.step e1 (.done rfl)) wv (wt_rcD h.ne (.done rfl) wv), by decide, fun z => by decide, fun z => by omega, fun j en hj he => ?_⟩
      by_cases j1 : j = 1
      · subst j1
        rw [e1] at he
        cases he
        exact ⟨_, .kd (.func (.done rfl) (.var (.unk e2)) (stl_rcD h.ne (.done rfl) (.var (.unk e2)))), fun z => absurd z (by decide)⟩
      · have : kn j = none := by
          by_cases lt : j < 3
          · rw [out j lt (by omega)]
            unfold k1F
            rw [put_ne (by omega)]
          · rw [far j (by omega) (by decide)]
            unfold k1F
            rw [put_ne (by omega)]
        rw [this] at he
        cases he
    · have em : manyS sel E = 0 := if_neg fun z => a z.1
      refine ⟨0, fun z => z.elim (fun z => absurd z a) fun z => absurd z c, by decide, fun z => by decide, fun z => by omega, fun j en hj he => ?_⟩
      have : kn j = none := by
        by_cases lt : j < 3
        · rw [out j lt (by omega)]
        · rw [far j (by omega) (by decide)]
      rw [this] at he
      cases he
  -- all entries settle
  have all : ∀ j, ∃ en', (∀ en, kn j = some en → StlE kn 6 en en') ∧ (j = 0 → sel 0 = true → sel 1 = true → kn 0 ≠ none → en' = .kd (rcD l0 l1 d)) := fun j => by
    cases hj : kn j with
    | none => exact ⟨.kd (rcD l0 l1 d), fun en z => (by cases z), fun _ _ _ _ => rfl⟩
    | some en =>
      by_cases r : (3 < j ∧ j < 3 + cnt E) ∨ j = m
      · obtain ⟨en', h1⟩ := ent j r en hj
        refine ⟨en', fun en2 z => (by cases z; exact h1), fun z a c _ => ?_⟩
        rcases cas with ⟨_, _, rfl, _⟩ | ⟨_, c', _, _⟩ | ⟨a', _, _, _⟩ | ⟨a', _, _, _⟩
        · omega
        · exact absurd c c'
        · exact absurd a a'
        · exact absurd a a'
      · obtain ⟨en', h1, h2⟩ := w5 j en r hj
        exact ⟨en', fun en2 z => (by cases z; exact h1), fun z a c _ => h2 z a c⟩
  obtain ⟨g, hg⟩ := Classical.axiomOfChoice all
  have es : selP (asks (skD l0 l1) nm0 (exM n1 E) 0) 0 sel = rootP sel l0 l1 ++ selP (asks (skD l0 l1) nm0 E 3) 2 sel := by
    rw [asks_main]
    show (if sel 0 then _ else []) ++ ((if sel 1 then _ else []) ++ _) = _
    unfold rootP
    rw [List.append_assoc]
  have hroot : ∀ p ∈ rootP sel l0 l1, p.1 = .var 1 ∧ (sel 0 = true ∨ sel 1 = true) := fun p hp => by
    unfold rootP at hp
    rcases List.mem_append.mp hp with hp | hp
    · split at hp
      · next a => rw [List.mem_singleton] at hp; rw [hp]; exact ⟨rfl, .inl a⟩
      · cases hp
    · split at hp
      · next a => rw [List.mem_singleton] at hp; rw [hp]; exact ⟨rfl, .inr a⟩
      · cases hp
  have hsmall : ∀ p ∈ selP (asks (skD l0 l1) nm0 E 3) 2 sel, (∃ x, x ≤ 200 ∧ Wt kn none p.1 x) ∧ p.1 ≠ .var 1 := fun p hp => by
    obtain ⟨⟨x, x1, x2⟩, j, j1, j2⟩ := pw p hp
    exact ⟨⟨x, by omega, x2⟩, by rw [j1]; intro z; cases z; omega⟩
  obtain ⟨wt, hwt⟩ : ∃ wt : Kd → Nat, wt (.var 1) = W1 ∧ ∀ k, k ≠ .var 1 → (∃ x, x ≤ 200 ∧ Wt kn none k x) → Wt kn none k (wt k) ∧ wt k ≤ 200 := by
    have : ∀ k : Kd, ∃ x : Nat, (k = .var 1 → x = W1) ∧ (k ≠ .var 1 → (∃ x, x ≤ 200 ∧ Wt kn none k x) → Wt kn none k x ∧ x ≤ 200) := fun k => by
      by_cases e : k = .var 1
      · exact ⟨W1, fun _ => rfl, fun z => absurd e z⟩
      · by_cases f : ∃ x, x ≤ 200 ∧ Wt kn none k x
        · obtain ⟨x, f1, f2⟩ := f
          exact ⟨x, fun z => absurd z e, fun _ _ => ⟨f2, f1⟩⟩
        · exact ⟨0, fun z => absurd z e, fun _ z => absurd z f⟩
    obtain ⟨wt, h⟩ := Classical.axiomOfChoice this
    exact ⟨wt, (h _).1 rfl, fun k => (h k).2⟩
  have las : (asks (skD l0 l1) nm0 (exM n1 E) 0).length ≤ 200 := by
    rw [asks_main, List.length_cons, List.length_cons, asks_len 3 h.sm]
    omega
  refine ⟨kn, wt, g, sol_of (ask_main h n1) las (by show 3 + cnt E ≤ 1000; omega) h.bU (by rw [es]; exact mw2.app mw3) (fun p hp => ?_) (fun j e he => (hg j).1 e he), fun z p hp => ?_, fun z => ?_, fun a c al => ?_⟩
  · rw [es] at hp
    rcases List.mem_append.mp hp with hp | hp
    · obtain ⟨p1, p2⟩ := hroot p hp
      rw [p1, hwt.1]
      exact ⟨w1 p2, w2⟩
    · obtain ⟨p1, p2⟩ := hsmall p hp
      obtain ⟨x1, x2⟩ := hwt.2 _ p2 p1
      exact ⟨x1, by omega⟩
  · rw [es] at hp
    rcases List.mem_append.mp hp with hp | hp
    · obtain ⟨p1, p2⟩ := hroot p hp
      rw [p1, hwt.1]
      exact w3 z
    · obtain ⟨p1, p2⟩ := hsmall p hp
      exact (hwt.2 _ p2 p1).2
  · obtain ⟨z1, z2⟩ := w4 z
    refine ⟨(.var 1, .fn (.var 3) (.var 0)), ?_, by rw [hwt.1]; exact z1⟩
    rw [es]
    refine List.mem_append_left _ ?_
    unfold rootP
    rw [if_pos z2]
    exact List.mem_append_left _ List.mem_cons_self
  · have k0 : kn 0 ≠ none := by
      rcases cas with ⟨_, _, rfl, rfl⟩ | ⟨_, c', _, _⟩ | ⟨a', _, _, _⟩ | ⟨a', _, _, _⟩
      · rw [out 0 (by decide) (by decide)]
        intro z
        cases z
      · exact absurd c c'
      · exact absurd a a'
      · exact absurd a a'
    refine ⟨(tls_known E 2 3 (.free m) h.sm al fin).2, k0, ?_⟩
    rw [(hg 0).2 rfl a c k0, v3 al]
end
end Fw
/-! Fm7: plain: the def that doubles; the two defs together. -/
namespace Fw
open PySem PySem.Spec PyProof.Rows L2
def bdy (l0 l1 : Str) : Ex := .wth l0 (.name "x") (.wth l1 (.name "x") .empty)
def exD (l0 l1 : Str) : Ex := .lam "x" (bdy l0 l1)
def nm1 : Nm := nm0.put "x" 1
def kdD (l0 l1 : Str) : Kd := .fn (.var 1) (rcD l0 l1 (.var 1))
theorem asks_dbl (sk : Kd) (l0 l1 : Str) : asks sk nm0 (exD l0 l1) 0 = ([(.var 0, .fn (.var 1) (.var 2))], []) :: asks sk nm1 (bdy l0 l1) 2 := rfl
theorem nm1x : nm1 "x" = some 1 := by
  unfold nm1 Nm.put
  rw [if_pos rfl]
def bdD (l0 l1 : Str) : Bd := ⟨9, [l0, l1], fun n => n ∈ tls (bdy l0 l1) 2, fun n l => l ∈ lbl (bdy l0 l1) 2 [] n⟩
section
variable {l0 l1 : Str}
theorem sm_dbl : Sm nm1 1 (bdy l0 l1) := ⟨nm1x, ⟨nm1x, trivial, trivial⟩, trivial⟩
theorem wf_dbl (ne : l0 ≠ l1) : Wf (bdy l0 l1) := ⟨fun z => ne (List.mem_singleton.mp z), (by show 1 < 60; decide), trivial, (fun z => (by cases z)), (by show 0 < 60; decide), trivial, trivial⟩
theorem lk_dbl (ne : l0 ≠ l1) (s0 : PyData.strOk l0 = true) (s1 : PyData.strOk l1 = true) : LkC (bdD l0 l1) (bdy l0 l1) 2 [] :=
  lkc_of _ 2 [] sm_dbl ⟨(fun z => (by cases z)), List.mem_cons_self, s0, trivial, (fun z => ne (List.mem_singleton.mp z).symm), List.mem_cons_of_mem _ List.mem_cons_self, s1, trivial, trivial⟩ (fun n hn => hn) fun n l' _ _ => Iff.rfl
theorem dbl_sol (sk : Kd) (ne : l0 ≠ l1) (h0 : PyData.strOk l0 = true) (h1 : PyData.strOk l1 = true) : SolF (asks sk nm0 (exD l0 l1) 0) (kdD l0 l1) := by
  have ln : (asks sk nm1 (bdy l0 l1) 2).length = 5 := asks_len 2 sm_dbl
  have lna : (asks sk nm0 (exD l0 l1) 0).length = 6 := by rw [asks_dbl, List.length_cons, ln]
  have sub : (List.range (asks sk nm0 (exD l0 l1) 0).length).Sublist (List.range (asks sk nm0 (exD l0 l1) 0).length) := List.Sublist.refl _
  have ep := prsOf_sel sub
  have el := lksOf_sel sub
  rw [lna] at ep el
  let sel : Nat → Bool := fun k => decide (k ∈ List.range 6)
  have hs : ∀ q, q < 6 → sel q = true := fun q hq => decide_eq_true (List.mem_range.mpr hq)
  let kn2 : Kn := kn0.put 0 (.kd (.fn (.var 1) (.var 2)))
  have mw2 : Mws (bdD l0 l1) kn0 [(.var 0, .fn (.var 1) (.var 2))] kn2 := mws1 (.unk rfl) (.done rfl) (.fill (x := 3) (by intro z; cases z) (Wt.fn (x := 1) (y := 1) (.done rfl) (wt_var rfl (by decide)) (wt_var rfl (by decide))) (by decide) (by show 0 < 9; decide) (shaped_fn _ _))
  have pre : Pre (bdD l0 l1) nm1 kn2 1 (bdy l0 l1) 2 [] (.free 2) := ⟨fun j a b => put_ne (by omega), fun _ => ⟨rfl, by decide, by decide⟩, rfl, (by show 2 < 9; decide), (by show 9 ≤ 9; decide), (fun m e => (by cases e; exact .inl rfl)), (fun t e => (by cases e))⟩
  obtain ⟨kn, mw3, post⟩ := proc (sk := sk) sel (bdy l0 l1) 1 2 [] (.free 2) kn2 sm_dbl (lk_dbl ne h0 h1) pre
  have ce : cnt (bdy l0 l1) = 7 := rfl
  have k1 : kn 1 = none := by rw [post.out 1 (by omega) (by decide)]; rfl
  have k0 : kn 0 = some (.kd (.fn (.var 1) (.var 2))) := by rw [post.out 0 (by omega) (by decide)]; rfl
  have hb : (∃ x, nm1 x = some 1) → kn 1 = none := fun _ => k1
  have fin := post.fin
  obtain ⟨d, v1, v2, v3⟩ : V1 kn sel 1 (bdy l0 l1) 1 2 := res hb _ 1 2 (.free 2) sm_dbl (wf_dbl ne) (fun t e => by cases e) fin
  have fu : fuel (bdy l0 l1) = 2 := rfl
  have ent := entries hb (bdy l0 l1) 1 2 (.free 2) sm_dbl (wf_dbl ne) (fun t e => by cases e) fin 6 (by omega)
  have pw := pair_wt (sk := sk) hb (bdy l0 l1) 1 2 (.free 2) sm_dbl (wf_dbl ne) (fun t e => by cases e) (.inl rfl) fin
  have al : allS sel (bdy l0 l1) 1 := fun q a b => hs q (by have : q < 1 + 5 := b; omega)
  have ed : d = rcD l0 l1 (.var 1) := by
    rw [v3 al]
    show Kd.rc (srt [(l0, .var 1), (l1, .var 1)]) none = _
    rw [srt2 _ ne]
    rfl
  have hA := sized_le sel (bdy l0 l1) 1 false (sm_dbl (l0 := l0) (l1 := l1))
  have es5 : sz (bdy l0 l1) = 5 := rfl
  have all : ∀ j, ∃ en', (∀ en, kn j = some en → StlE kn 6 en en') ∧ (j = 0 → en' = .kd (kdD l0 l1)) := fun j => by
    cases hj : kn j with
    | none =>
      refine ⟨.kd (kdD l0 l1), fun en z => (by cases z), fun _ => rfl⟩
    | some en =>
      by_cases r : (2 < j ∧ j < 2 + cnt (bdy l0 l1)) ∨ j = 2
      · obtain ⟨en', h1⟩ := ent j r en hj
        exact ⟨en', fun en2 z => (by cases z; exact h1), fun z => by omega⟩
      · by_cases j0 : j = 0
        · subst j0
          rw [k0] at hj
          cases hj
          refine ⟨_, fun en2 z => (by cases z; exact .kd (.func (.done rfl) (.var (.unk k1)) (v1 5 (by omega)))), fun _ => ?_⟩
          rw [ed]
          rfl
        · have : kn j = none := by
            rw [post.out j (by omega) (by show j ≠ 2; omega)]
            exact put_ne j0
          rw [this] at hj
          cases hj
  obtain ⟨g, hg⟩ := Classical.axiomOfChoice all
  have esP : selP (asks sk nm0 (exD l0 l1) 0) 0 sel = [(.var 0, .fn (.var 1) (.var 2))] ++ selP (asks sk nm1 (bdy l0 l1) 2) 1 sel := by
    rw [asks_dbl]
    show (if sel 0 then _ else []) ++ _ = _
    rw [if_pos (hs 0 (by decide))]
  obtain ⟨wt, hwt⟩ : ∃ wt : Kd → Nat, ∀ k, (∃ x, x ≤ 200 ∧ Wt kn none k x) → Wt kn none k (wt k) ∧ wt k ≤ 200 := by
    have : ∀ k : Kd, ∃ x : Nat, (∃ x, x ≤ 200 ∧ Wt kn none k x) → Wt kn none k x ∧ x ≤ 200 := fun k => by
      by_cases f : ∃ x, x ≤ 200 ∧ Wt kn none k x
      · obtain ⟨x, f1, f2⟩ := f
        exact ⟨x, fun _ => ⟨f2, f1⟩⟩
      · exact ⟨0, fun z => absurd z f⟩
    exact Classical.axiomOfChoice this
  have hw : ∀ p ∈ selP (asks sk nm0 (exD l0 l1) 0) 0 sel, Wt kn none p.1 (wt p.1) ∧ wt p.1 ≤ 200 := fun p hp => by
    rw [esP] at hp
    rcases List.mem_append.mp hp with hp | hp
    · rw [List.mem_singleton] at hp
      subst hp
      exact hwt _ ⟨1 + 1 + sized sel (bdy l0 l1) 1 false, by omega, .fn (.step k0 (.done rfl)) (wt_var k1 (by intro z; cases z)) v2⟩
    · obtain ⟨⟨x, x1, x2⟩, _⟩ := pw p hp
      exact hwt _ ⟨x, by omega, x2⟩
  have aok : ∀ a ∈ asks sk nm0 (exD l0 l1) 0, AskOk (bdD l0 l1) a := fun a ha => by
    rw [asks_dbl] at ha
    rcases List.mem_cons.mp ha with rfl | ha
    · refine ⟨fun q hq => ?_, (fun x hx => (by cases hx)), (by show 1 ≤ 2; decide), (by show 0 ≤ 1; decide)⟩
      rw [List.mem_singleton] at hq
      subst hq
      refine ⟨⟨by show 0 < 4; decide, trivial⟩, ⟨by show max 0 0 + 1 < 4; decide, trivial, trivial⟩, fun m hm => ?_, by show 3 ≤ 6; decide⟩
      have hm : m ∈ [0, 1, 2] := hm
      simp only [List.mem_cons, List.not_mem_nil, or_false] at hm
      show m < 9
      omega
    · exact asks_ok _ 2 [] sm_dbl (lk_dbl ne h0 h1) (by show 9 ≤ 9; decide) (fun _ => by show 1 < 9; decide) a ha
  refine ⟨bdD l0 l1, kn, wt, g, ?_, ?_, fun t _ ht => (tls_known (bdy l0 l1) 1 2 (.free 2) sm_dbl al fin).2 t ht, ?_, (by rw [k0]; intro z; cases z), (hg 0).2 rfl⟩
  · rw [lna, ep, el]
    exact sol_of aok (by rw [lna]; decide) (by show 9 ≤ 1000; decide) (by show 2 ≤ 50; decide) (by rw [esP]; exact mw2.app mw3) (fun p hp => ⟨(hw p hp).1, by have := (hw p hp).2; omega⟩) fun j e he => (hg j).1 e he
  · rw [lna, ep]
    exact fun p hp => (hw p hp).2
  · rw [lna, ep, el]
    unfold kindsOf
    rw [numsL_append]
    refine List.mem_append_right _ ?_
    rw [esP]
    exact List.mem_cons_self
end
/-! ### the two together -/
def okM (E : Ex) (ch : List Nat) : Bool := decide (manyS (fun k => decide (k ∈ ch)) E ≤ 200)
theorem sub_id : (∀ (d : Kd), d.sub (nS none) = d) := by
  have key : ∀ n, (∀ d : Kd, sizeOf d < n → d.sub (nS none) = d) ∧ (∀ fs : List (Str × Kd), sizeOf fs < n → subF (nS none) fs = fs) := by
    intro n
    induction n with
    | zero => exact ⟨fun d h => absurd h (Nat.not_lt_zero _), fun d h => absurd h (Nat.not_lt_zero _)⟩
    | succ n ih =>
      refine ⟨fun d h => ?_, fun fs h => ?_⟩
      · cases d with
        | num => rfl
        | var m => rfl
        | fn a b =>
          simp only [Kd.fn.sizeOf_spec] at h
          show Kd.fn (a.sub _) (b.sub _) = _
          rw [ih.1 a (by omega), ih.1 b (by omega)]
        | rc fs t =>
          simp only [Kd.rc.sizeOf_spec] at h
          show Kd.rc (subF _ fs) t = _
          rw [ih.2 fs (by omega)]
      · cases fs with
        | nil => rfl
        | cons x r =>
          obtain ⟨l, d⟩ := x
          simp only [List.cons.sizeOf_spec, Prod.mk.sizeOf_spec] at h
          show (l, d.sub _) :: subF _ r = _
          rw [ih.1 d (by omega), ih.2 r (by omega)]
  exact fun d => (key (sizeOf d + 1)).1 d (Nat.lt_succ_self _)
theorem shutF {fs : List (Str × Kd)} (h : ∀ x ∈ fs, x.2.cld ∧ x.2.bnd B0 ∧ x.2.nums = []) : cldF fs ∧ bndF B0 none fs ∧ numsF fs = [] := by
  induction fs with
  | nil => exact ⟨trivial, trivial, rfl⟩
  | cons x r ih =>
    obtain ⟨l, d⟩ := x
    obtain ⟨i1, i2, i3⟩ := ih fun y hy => h y (List.mem_cons_of_mem _ hy)
    obtain ⟨g1, g2, g3⟩ := h (l, d) List.mem_cons_self
    exact ⟨⟨g1, i1⟩, ⟨(fun n e => (by cases e)), g2, i2⟩, by show d.nums ++ numsF r = []; rw [show d.nums = [] from g3, i3]; rfl⟩
theorem shut_kd {b : Nat} : ∀ (e : Ex), Sm nm0 b e → Wf e → ((kdE b e).cld ∧ (kdE b e).bnd B0 ∧ (kdE b e).nums = []) ∧ (∀ x ∈ fldsE b e, x.2.cld ∧ x.2.bnd B0 ∧ x.2.nums = []) ∧ (fldsE b e).map (·.1) = chn e
  | .num _, _, _ => ⟨⟨trivial, trivial, rfl⟩, fun x h => (by cases h), rfl⟩
  | .name x, h, _ => by cases h
  | .empty, _, _ => ⟨⟨⟨rfl, (by show 0 ≤ 10000; decide), trivial⟩, ⟨(fun n e => (by cases e)), trivial⟩, rfl⟩, fun x h => (by cases h), rfl⟩
  | .wth l e r, h, w => by
    obtain ⟨a1, _, _⟩ := shut_kd (b := b) e h.1 w.2.2.1
    obtain ⟨_, b1, b2⟩ := shut_kd (b := b) r h.2.1 w.2.2.2
    have hf : ∀ x ∈ (l, kdE b e) :: fldsE b r, x.2.cld ∧ x.2.bnd B0 ∧ x.2.nums = [] := fun x hx => by
      rcases List.mem_cons.mp hx with rfl | hx
      · exact a1
      · exact b1 x hx
    have hk : ((l, kdE b e) :: fldsE b r).map (·.1) = l :: chn r := by rw [List.map_cons, b2]
    have hlen : (srt ((l, kdE b e) :: fldsE b r)).length = (chn r).length + 1 := by
      rw [(srt_perm _).length_eq, ← List.length_map (f := fun x : Str × Kd => x.1), hk]
      rfl
    obtain ⟨s1, s2, s3⟩ := shutF (fs := srt ((l, kdE b e) :: fldsE b r)) fun x hx => hf x ((srt_perm _).subset hx)
    refine ⟨⟨⟨rfl, by rw [hlen]; have := w.2.1; omega, s1⟩, ⟨(fun n e => (by cases e)), s2⟩, ?_⟩, hf, hk⟩
    show numsF _ ++ [] = []
    rw [s3]
    rfl
  | .lam _ _, h, _ => h.elim
  | .app _ _, h, _ => h.elim
theorem wfx_sm {own : Str} {ks : Str → Prop} {b : Nat} : ∀ (e : Ex), Sm nm0 b e → WFX own ks nm0 e
  | .num _, _ => trivial
  | .name x, h => by cases h
  | .empty, _ => trivial
  | .wth l e r, h => ⟨wfx_sm e h.1, wfx_sm r h.2.1⟩
  | .lam _ _, h => h.elim
  | .app _ _, h => h.elim
theorem pf_of {E : Ex} {U : List Str} {l0 l1 n1 : Str} (h : MainH E U l0 l1) (nm : n1 ≠ "main") : PF n1 (exD l0 l1) (exM n1 E) (kdD l0 l1) (some 1) (rcD l0 l1 (kdE 0 E)) (okM E) := by
  have e1 : (kdD l0 l1).sub (nS (some 1)) = skD l0 l1 := rfl
  have sl : (spots nm0 (exM n1 E) 0).length = 2 + sz E := by
    rw [spots_main, List.length_cons, List.length_cons, spots_len 3 h.sm]
    omega
  have al : (asks (skD l0 l1) nm0 (exM n1 E) 0).length = 2 + sz E := by
    rw [asks_main, List.length_cons, List.length_cons, asks_len 3 h.sm]
    omega
  have hsz := h.sz
  refine ⟨nm, by show (max 0 (max 0 0 + 1) + 1) + 1 < 14; decide, ?_, ?_, ⟨.inr ⟨nm, rfl⟩, wfx_sm E h.sm⟩, ⟨_, rfl, by show 5 ≤ 9000; decide⟩, ⟨_, spots_main n1 E, ?_⟩, fun sk => dbl_sol sk h.ne h.s0 h.s1, ⟨rfl, by show 3 ≤ 10000; decide, by show max 0 (max 0 (max 0 0) + 1) + 1 < 4; decide, ?_, ?_⟩, ?_, ?_, fun ch sub => ?_, fun hok => ?_⟩
  · have := h.dpX
    show max 0 E.dp + 1 < 14
    omega
  · intro n
    have hx : (nm0.put "x" n) "x" ≠ none := by
      unfold Nm.put
      rw [if_pos rfl]
      intro z
      cases z
    exact ⟨.inl hx, .inl hx, trivial⟩
  · rw [List.length_cons, spots_len 3 h.sm]
    omega
  · exact ⟨trivial, (fun n e => (by cases e)), (fun n e => (by cases e)), trivial, (fun n e => (by cases e)), trivial, trivial⟩
  · exact ⟨trivial, rfl, by show 2 ≤ 10000; decide, trivial, trivial, trivial⟩
  · rw [e1]
    exact ⟨rfl, by show 3 ≤ 10000; decide, by show max 0 (max 0 (max 0 0) + 1) + 1 < 4; decide, ⟨trivial, (fun n e => (by cases e)), (fun n e => (by cases e)), trivial, (fun n e => (by cases e)), trivial, trivial⟩, ⟨trivial, rfl, by show 2 ≤ 10000; decide, trivial, trivial, trivial⟩⟩
  · rw [e1, al, sl]
  · rw [e1]
    rw [sl, ← al] at sub
    obtain ⟨kn, wt, g, s1, s2, s3, s4⟩ := main_sol h n1 (fun k => decide (k ∈ ch))
    refine ⟨bdM E U, kn, wt, g, ?_, fun z => ?_, fun z => ?_⟩
    · rw [prsOf_sel sub, lksOf_sel sub]
      exact s1
    · rw [prsOf_sel sub]
      exact s2 (of_decide_eq_true z)
    · rw [prsOf_sel sub]
      refine s3 ?_
      have := of_decide_eq_false z
      omega
  · rw [e1]
    have sub : (List.range (asks (skD l0 l1) nm0 (exM n1 E) 0).length).Sublist (List.range (asks (skD l0 l1) nm0 (exM n1 E) 0).length) := List.Sublist.refl _
    obtain ⟨kn, wt, g, s1, s2, s3, s4⟩ := main_sol h n1 (fun k => decide (k ∈ List.range (2 + sz E)))
    have hs : ∀ q, q < 2 + sz E → decide (q ∈ List.range (2 + sz E)) = true := fun q hq => decide_eq_true (List.mem_range.mpr hq)
    rw [sl] at hok
    have hok : manyS (fun k => decide (k ∈ List.range (2 + sz E))) E ≤ 200 := of_decide_eq_true hok
    obtain ⟨t1, t2, t3⟩ := s4 (hs 0 (by omega)) (hs 1 (by omega)) fun q a b => hs q b
    refine ⟨⟨bdM E U, kn, wt, g, ?_, ?_, fun t _ ht => t1 t ht, ?_, t2, t3⟩, ?_⟩
    · rw [prsOf_sel sub, lksOf_sel sub, al]
      exact s1
    · rw [prsOf_sel sub, al]
      exact s2 hok
    · rw [prsOf_sel sub, lksOf_sel sub, al]
      unfold kindsOf
      rw [numsL_append]
      refine List.mem_append_right _ ?_
      rw [asks_main]
      show 0 ∈ numsL (flatP ((if decide (0 ∈ List.range (2 + sz E)) = true then _ else []) ++ _))
      rw [if_pos (hs 0 (by omega))]
      show 0 ∈ [1] ++ (([3] ++ [0]) ++ _)
      simp
    · obtain ⟨c1, c2, c3⟩ := (shut_kd (b := 0) E h.sm h.wf).1
      have hd := h.dpE
      refine ⟨?_, ?_, ?_, ⟨(fun n e => (by cases e)), (fun n e => (by cases e)), c2, (fun n e => (by cases e)), c2, trivial⟩, ⟨rfl, by show 2 ≤ 10000; decide, c1, c1, trivial⟩⟩
      · show addN [] (((kdE 0 E).nums ++ ((kdE 0 E).nums ++ [])) ++ []) = []
        rw [c3]
        rfl
      · show (((kdE 0 E).nums ++ ((kdE 0 E).nums ++ [])) ++ []).length ≤ 10000
        rw [c3]
        decide
      · show max (kdE 0 E).dp (max (kdE 0 E).dp 0) + 1 < 4
        omega
end Fw
/-! Fw23: the law's defs: _law_mixed, _law_labels. -/
namespace Fw
open PySem PySem.Spec PyProof.Rows L2
abbrev s_mixed : Stmt := top 56
abbrev s_labels : Stmt := top 57
theorem sc_mixed : FnScope ["_law_cell", "_law_k", "_law_one"] ["_law_cell", "_law_k"] (defScope s_mixed) := ⟨rfl, rfl, rfl, by decide +kernel, rfl, by decide +kernel, by decide +kernel⟩
theorem sc_labels : FnScope ["_law_cell", "_law_letters", "_law_size_here", "_law_at", "_law_found", "_law_k", "_law_text", "_law_j"] ["_law_cell"] (defScope s_labels) := ⟨rfl, rfl, rfl, by decide +kernel, rfl, by decide +kernel, by decide +kernel⟩
def mixA (c k : Int) : Int := (c % 1000003 + 1) * (48271 + 2 * k * k) % 2147483647
def mix (c k : Int) : Int := mixA c k * (mixA c k % 65537 + k) % 2147483629
theorem mix_pos (c k : Int) : 0 ≤ mix c k ∧ mix c k < 2147483629 := ⟨Int.emod_nonneg _ (by decide), Int.emod_lt_of_pos _ (by decide)⟩
def sp_mixed : Sp := fun vs H Q _ => ∃ (c : Int) (k : Nat), vs = [.int c, .int (k : Int)] ∧ k ≤ 100 ∧ Q (.int (mix c k)) H
/-- eight texts, all unlike, none of them main -/
structure LabOk (ls : List Str) : Prop where
  len : ls.length = 8
  nd : ls.Nodup
  ok : ∀ l ∈ ls, PyData.strOk l = true ∧ l ≠ "main"
def sp_labels : Sp := fun vs H Q _ => ∃ (c : Int), vs = [.int c] ∧ ∀ (p : Addr) (ls : List Str) (H' : Hp), Same H H' → H' p = some (.lst (ls.map V.str)) → LabOk ls → Q (.ref p) H'
section
variable {P : Program} {wd : World} {K : PySem.W.Frag} {mg : Str → Option Value} {base : Heap} {C CN CW : Addr}
theorem ok_mixed (D : Dfn K mg "_law_mixed" s_mixed ["_law_cell", "_law_k"]) : Cal P wd K mg base CX0 1 "_law_mixed" ["_law_cell", "_law_k"] sp_mixed := by
  have S := sc_mixed
  refine cal_of D S (fun vs H Q E h => ?_) (fun f cdv A outer s H vs Q E hr h => ?_)
  · obtain ⟨c, k, rfl, _⟩ := h
    rfl
  obtain ⟨c, k, rfl, hk, q⟩ := h
  refine ⟨_, (pss_cons (ps_set (i := 2) S.nd rfl (Or.inl rfl) (pe_op op_mod (pe_op op_mul (pe_op op_add (pe_op op_mod (pv 0) pe_int) pe_int) (pe_op op_add pe_int (pe_op op_mul (pe_op op_mul pe_int (pv 1)) (pv 1)))) pe_int))
    (pss_one (ps_ret (pe_op op_mod (pe_op op_mul (pv 2) (pe_op op_add (pe_op op_mod (pv 2) pe_int) (pv 1))) pe_int)))), ?_⟩
  have a1 : 0 ≤ c % 1000003 := Int.emod_nonneg _ (by decide)
  have a2 : c % 1000003 < 1000003 := Int.emod_lt_of_pos _ (by decide)
  have b1 : 0 ≤ mixA c k := Int.emod_nonneg _ (by decide)
  have b2 : mixA c k < 2147483647 := Int.emod_lt_of_pos _ (by decide)
  refine ⟨_, rfl, _, _, rfl, rfl, (by show (0 : Int) < _; decide), _, _, rfl, rfl, _, rfl, _, _, rfl, rfl, .inl ⟨by omega, by omega⟩, _, rfl, _, _, rfl, rfl, .inr ⟨by omega, by omega⟩, _, _, rfl, rfl, _, _, rfl, rfl, .inl ⟨by omega, by omega⟩, _, _, rfl, rfl, (by show (0 : Int) < _; decide), ?_⟩
  have hx : (c % 1000003 + 1) * (48271 + 2 * (k : Int) * (k : Int)) % 2147483647 = mixA c k := rfl
  refine ⟨_, rfl, _, rfl, _, _, rfl, rfl, (by show (0 : Int) < _; decide), _, rfl, _, _, rfl, rfl, _, _, rfl, rfl, .inl ⟨?_, ?_⟩, _, _, rfl, rfl, (by show (0 : Int) < _; decide), ?_⟩
  · show -(2 ^ 64) < mixA c k
    omega
  · show mixA c k < 2 ^ 64
    omega
  · exact q
def szL (c : Int) : Int := 1 + c % 6
def atL (c : Int) : Int := c / 6 % szL c
def ixl (c : Int) (k i : Nat) : Int := (mix c i + (k : Int) * 3 * (if (i : Int) = atL c then 1 else 0)) % 26
def txL (c : Int) (k j : Nat) : List Nat := (List.range j).map fun i => 97 + (ixl c k i).toNat
def sfx (c : Int) : List Nat := if c / 36 % 2 = 0 then [122, 113] else [113]
def labT (c : Int) (k : Nat) : Str := ⟨(txL c k (szL c).toNat ++ sfx c).toArray⟩
def labsL (c : Int) : List Str := (List.range 8).map (labT c)
theorem szL_pos (c : Int) : 1 ≤ szL c ∧ szL c ≤ 6 := by
  have h1 : 0 ≤ c % 6 := Int.emod_nonneg _ (by decide)
  have h2 : c % 6 < 6 := Int.emod_lt_of_pos _ (by decide)
  unfold szL
  omega
theorem ixl_lt (c : Int) (k i : Nat) : 0 ≤ ixl c k i ∧ ixl c k i < 26 := ⟨Int.emod_nonneg _ (by decide), Int.emod_lt_of_pos _ (by decide)⟩
theorem txL_len (c : Int) (k j : Nat) : (txL c k j).length = j := by simp [txL]
theorem labs_ok (c : Int) : LabOk (labsL c) := by
  obtain ⟨z1, z2⟩ := szL_pos c
  have at1 : 0 ≤ atL c := Int.emod_nonneg _ (by omega)
  have at2 : atL c < szL c := Int.emod_lt_of_pos _ (by omega)
  have inj : ∀ k k', k < 8 → k' < 8 → labT c k = labT c k' → k = k' := fun k k' h h' e => by
    have e1 : (txL c k (szL c).toNat ++ sfx c).toArray = (txL c k' (szL c).toNat ++ sfx c).toArray := congrArg Str.cps e
    have e2 := congrArg Array.toList e1
    simp only [List.toList_toArray] at e2
    have e3 := List.append_inj_left e2 (by rw [txL_len, txL_len])
    have e4 := congrArg (fun l => l[(atL c).toNat]?) e3
    have lt : (atL c).toNat < (szL c).toNat := by omega
    simp only [txL, List.getElem?_map, List.getElem?_range lt, Option.map_some, Option.some.injEq] at e4
    have hat : (((atL c).toNat : Nat) : Int) = atL c := Int.toNat_of_nonneg at1
    obtain ⟨p1, p2⟩ := ixl_lt c k (atL c).toNat
    obtain ⟨p3, p4⟩ := ixl_lt c k' (atL c).toNat
    have e5 : ixl c k (atL c).toNat = ixl c k' (atL c).toNat := by omega
    unfold ixl at e5
    rw [hat, if_pos rfl] at e5
    omega
  refine ⟨by simp [labsL], ?_, fun l hl => ?_⟩
  · unfold labsL
    rw [List.nodup_iff_pairwise_ne, List.pairwise_map]
    refine List.Pairwise.imp_of_mem ?_ (List.nodup_iff_pairwise_ne.mp (List.nodup_range (n := 8)))
    intro a b ha hb hne he
    exact hne (inj a b (List.mem_range.mp ha) (List.mem_range.mp hb) he)
  · obtain ⟨k, hk, rfl⟩ := List.mem_map.mp hl
    constructor
    · show (txL c k (szL c).toNat ++ sfx c).toArray.all (· < 0x110000) = true
      rw [List.all_toArray, List.all_eq_true]
      intro x hx
      refine decide_eq_true ?_
      rcases List.mem_append.mp hx with hx | hx
      · obtain ⟨i, _, rfl⟩ := List.mem_map.mp hx
        obtain ⟨p1, p2⟩ := ixl_lt c k i
        show 97 + (ixl c k i).toNat < 0x110000
        omega
      · unfold sfx at hx
        split at hx
        · simp at hx; rcases hx with rfl | rfl <;> decide
        · simp at hx; subst hx; decide
    · intro e
      have e1 : (txL c k (szL c).toNat ++ sfx c) = [109, 97, 105, 110] := by
        have h2 : (Str.ofString "main").cps.toList = [109, 97, 105, 110] := by decide +kernel
        have h3 : (labT c k).cps.toList = ("main" : Str).cps.toList := by rw [e]
        exact h3.trans h2
      have e2 := congrArg List.getLast? e1
      have hs : (sfx c).getLast? = some 113 := by
        unfold sfx
        split <;> rfl
      rw [List.getLast?_append, hs] at e2
      cases e2
theorem ok_labels (D : Dfn K mg "_law_labels" s_labels ["_law_cell"]) (T : Txt K mg) (c_mixed : Cal P wd K mg base CX0 1 "_law_mixed" ["_law_cell", "_law_k"] sp_mixed) : Cal P wd K mg base CX0 2 "_law_labels" ["_law_cell"] sp_labels := by
  have S := sc_labels
  refine cal_of D S (fun vs H Q E h => ?_) (fun f cdv A outer s H vs Q E hr h => ?_)
  · obtain ⟨c, rfl, _⟩ := h
    rfl
  obtain ⟨c, rfl, q⟩ := h
  refine ⟨_, (pss_cons (ps_set (i := 1) S.nd rfl (Or.inl rfl) pe_str)
    (pss_cons (ps_set (i := 2) S.nd rfl (Or.inl rfl) (pe_op op_add pe_int (pe_op op_mod (pv 0) pe_int)))
    (pss_cons (ps_set (i := 3) S.nd rfl (Or.inl rfl) (pe_op op_mod (pe_op op_fdiv (pv 0) pe_int) (pv 2)))
    (pss_cons (ps_set (i := 4) S.nd rfl (Or.inl rfl) (pe_lst pa_nil))
    (pss_cons (ps_for PassesOwn.never rfl (pi_range1 rfl T.range (pa_cons pe_int pa_nil)) (pg_name (i := 5) S.nd rfl (Or.inl rfl))
      (pss_cons (ps_set (i := 6) S.nd rfl (Or.inl rfl) pe_str)
      (pss_cons (ps_for PassesOwn.never rfl (pi_range1 rfl T.range (pa_cons (pv 2) pa_nil)) (pg_name (i := 7) S.nd rfl (Or.inl rfl))
        (pss_one (ps_set (i := 6) S.nd rfl (Or.inl rfl) (pe_op op_add_str (pv 6) (pe_ix ix_str (pv 1) (pe_op op_mod (pe_op op_add (pe_cal c_mixed hr pass0 (pa_cons (pv 0) (pa_cons (pv 7) pa_nil))) (pe_op op_mul (pe_op op_mul (pv 5) pe_int) (pe_callTy call_int1 rfl T.int (by decide +kernel) (pa_cons (pe_cmpR op_eq (pv 7) (pv 3) (nomark _)) pa_nil)))) pe_int) (fun _ _ => rfl))))))
      (pss_one (ps_expr (pe_bm PySem.F.plainAttrs_list PySem.F.slot_list_append PySem.F.type_list_append mt_append (pv 4) (pa_cons (pe_op op_add_str (pv 6) (pe_slice sl_str pe_str (po_some (pe_op op_mod (pe_op op_fdiv (pv 0) pe_int) pe_int)) po_none)) pa_nil)))))))
    (pss_one (ps_ret (pv 4)))))))), ?_⟩
  obtain ⟨z1, z2⟩ := szL_pos c
  have p6 : (0 : Int) < 6 := by decide
  refine ⟨_, rfl, _, _, rfl, rfl, p6, _, _, rfl, rfl, ?_⟩
  refine ⟨_, rfl, _, _, rfl, rfl, ⟨p6, by decide⟩, _, rfl, _, _, rfl, rfl, (show (0 : Int) < szL c by omega), ?_⟩
  refine ⟨(by show 0 ≤ sizeLine; decide), fun p np => ?_⟩
  refine newG np fun H1 s1 h1 => ?_
  refine ⟨8, rfl, by decide, by decide, for_range (lo := 0) (n := 8) (fun i σ G => ∃ (x y z : Option V), σ = [some (.int c), some (.str "abcdefghijklmnopqrstuvwxyz"), some (.int (szL c)), some (.int (atL c)), some (.ref p), x, y, z] ∧ Same H G ∧ G p = some (.lst (((List.range i).map (labT c)).map V.str)))
    ⟨none, none, none, rfl, s1, h1⟩ ?_ ?_⟩
  · rintro k σ G hk ⟨x, y, z, rfl, sG, gp⟩
    rw [Int.zero_add]
    refine ⟨_, rfl, szL c, rfl, by omega, by omega, for_range (lo := 0) (n := (szL c).toNat) (fun j σ G' => ∃ (z : Option V), σ = [some (.int c), some (.str "abcdefghijklmnopqrstuvwxyz"), some (.int (szL c)), some (.int (atL c)), some (.ref p), some (.int (k : Int)), some (.str ⟨(txL c k j).toArray⟩), z] ∧ G' = G)
      ⟨z, rfl, rfl⟩ ?_ ?_⟩
    · rintro j σ G' hj ⟨z', rfl, rfl⟩
      rw [Int.zero_add]
      have hj6 : j < 6 := by omega
      have e1 : (if decide (V.int (j : Int) = V.int (atL c)) = true then (1 : Int) else 0) = if (j : Int) = atL c then 1 else 0 := by
        by_cases h : (j : Int) = atL c
        · rw [if_pos h, if_pos (decide_eq_true (by rw [h]))]
        · rw [if_neg h, if_neg (by rw [decide_eq_false (fun z => h (V.int.inj z))]; decide)]
      have eix : (mix c (j : Int) + (k : Int) * 3 * (if decide (V.int (j : Int) = V.int (atL c)) = true then (1 : Int) else 0)) % 26 = ixl c k j := by rw [e1]; rfl
      obtain ⟨n1, n2⟩ := ixl_lt c k j
      have hn : ixl c k j = ((ixl c k j).toNat : Int) := (Int.toNat_of_nonneg n1).symm
      have hat : atI (Str.ofString "abcdefghijklmnopqrstuvwxyz").cps.toList (ixl c k j) = some (97 + (ixl c k j).toNat) := by
        have key : ∀ n : _root_.Fin 26, atI (Str.ofString "abcdefghijklmnopqrstuvwxyz").cps.toList (n.1 : Int) = some (97 + n.1) := by decide +kernel
        exact (congrArg (atI (Str.ofString "abcdefghijklmnopqrstuvwxyz").cps.toList) hn).trans (key ⟨(ixl c k j).toNat, by omega⟩)
      refine ⟨_, rfl, _, rfl, _, rfl, _, rfl, c, j, rfl, by omega, _, rfl, _, _, rfl, rfl, .inl ⟨by omega, by omega⟩, _, rfl, _, rfl, rfl, .inr ⟨_, rfl, _, _, rfl, rfl, .inl ⟨by omega, by omega⟩, _, _, rfl, rfl, _, _, rfl, rfl, (by show (0 : Int) < _; decide), ?_⟩⟩
      have hat' := (congrArg (atI (Str.ofString "abcdefghijklmnopqrstuvwxyz").cps.toList) eix).trans hat
      refine ⟨_, _, _, rfl, rfl, (by decide +kernel), hat', _, _, rfl, rfl, ?_, some (.int (j : Int)), ?_, rfl⟩
      · show (txL c k j).toArray.size + 1 ≤ sizeLine
        rw [List.size_toArray, txL_len]
        exact sz_le (by omega)
      · have et : ((⟨(txL c k j).toArray⟩ : Str) ++ (⟨#[97 + (ixl c k j).toNat]⟩ : Str)) = ⟨(txL c k (j + 1)).toArray⟩ := by
          show (⟨(txL c k j).toArray ++ #[97 + (ixl c k j).toNat]⟩ : Str) = _
          congr 1
          unfold txL
          rw [List.range_succ, List.map_append]
          simp
        rw [et]
        rfl
    · rintro σ G' ⟨z', rfl, rfl⟩
      have c1 : 0 ≤ c / 36 % 2 := Int.emod_nonneg _ (by decide)
      have c2 : c / 36 % 2 < 2 := Int.emod_lt_of_pos _ (by decide)
      have ec : cutS (Str.ofString "zq") (some (c / 36 % 2)) none = ⟨(sfx c).toArray⟩ := by
        unfold sfx
        by_cases h : c / 36 % 2 = 0
        · rw [if_pos h, h]
          decide +kernel
        · have h1 : c / 36 % 2 = 1 := by omega
          rw [if_neg h, h1]
          decide +kernel
      refine ⟨_, rfl, .inl ⟨rfl, _, .of gp⟩, _, rfl, _, rfl, _, _, rfl, rfl, ⟨by decide, by decide⟩, _, _, rfl, rfl, (by show (0 : Int) < _; decide), _, rfl, _, rfl, (by decide +kernel), ?_⟩
      rw [ec]
      refine ⟨_, _, rfl, rfl, ?_, p, _, _, rfl, rfl, gp, sz_lt (by simp; omega), ?_⟩
      · show (txL c k (szL c).toNat).toArray.size + (sfx c).toArray.size ≤ sizeLine
        rw [List.size_toArray, List.size_toArray, txL_len]
        have : (sfx c).length ≤ 2 := by unfold sfx; split <;> decide
        exact sz_le (by omega)
      · refine mutG gp rfl fun G2 k2 g2 => ⟨_, _, _, rfl, same_over sG k2 np, ?_⟩
        rw [g2, List.range_succ, List.map_append, List.map_append]
        congr 4
        congr 1
        show (⟨(txL c k (szL c).toNat).toArray ++ (sfx c).toArray⟩ : Str) = _
        unfold labT
        congr 1
        simp
  · rintro σ G ⟨x, y, z, rfl, sG, gp⟩
    exact ⟨_, rfl, q p (labsL c) G sG gp (labs_ok c)⟩
end
end Fw
/-! Fw24: the law's defs: _law_record. -/
namespace Fw
open PySem PySem.Spec PyProof.Rows L2
mutual
/-- a kind as the law writes it -/
inductive IsJ (K : PySem.W.Frag) (H : Hp) : V → Kd → Prop
  | num {a : Addr} : SqT K H a [.str "num"] → IsJ K H (.ref a) .num
  | rc {a r f : Addr} {vs : List V} {fs : List (Str × Kd)} : SqT K H a [.str "rec", .ref r] → SqT K H r [.str "row", .ref f, .non] → SqT K H f vs → IsJs K H vs fs → IsJ K H (.ref a) (.rc fs none)
inductive IsJs (K : PySem.W.Frag) (H : Hp) : List V → List (Str × Kd) → Prop
  | nil : IsJs K H [] []
  | cons {p : Addr} {l : Str} {x : V} {d : Kd} {vs : List V} {fs : List (Str × Kd)} : SqT K H p [.str l, x] → IsJ K H x d → IsJs K H vs fs → IsJs K H (.ref p :: vs) ((l, d) :: fs)
end
section
variable {K : PySem.W.Frag} {S : Addr → Prop} {H H' : Hp}
mutual
theorem isJ_keep (k : Keep S H H') : ∀ (d : Kd) (v : V), IsJ K H v d → IsJ K H' v d
  | .num, _, h => by cases h with | num e => exact .num (sqT_keep k e)
  | .var n, _, h => by cases h
  | .fn A B, _, h => by cases h
  | .rc fs t, _, h => by cases h with | rc a b c d => exact .rc (sqT_keep k a) (sqT_keep k b) (sqT_keep k c) (isJs_keep k fs _ d)
theorem isJs_keep (k : Keep S H H') : ∀ (fs : List (Str × Kd)) (vs : List V), IsJs K H vs fs → IsJs K H' vs fs
  | [], _, h => by cases h; exact .nil
  | (l, d) :: r, _, h => by cases h with | cons a b c => exact .cons (sqT_keep k a) (isJ_keep k d _ b) (isJs_keep k r _ c)
end
mutual
theorem isJ_dp : ∀ (d : Kd) (v : V), IsJ K H v d → Dp K H v d.dat
  | .num, _, h => by cases h with | num e => exact .tup e (.cons (.str _) .nil)
  | .var n, _, h => by cases h
  | .fn A B, _, h => by cases h
  | .rc fs t, _, h => by cases h with | rc a b c d => exact .tup a (.cons (.str _) (.cons (.tup b (.cons (.str _) (.cons (.tup c (isJs_dp fs _ d)) (.cons .non .nil)))) .nil))
theorem isJs_dp : ∀ (fs : List (Str × Kd)) (vs : List V), IsJs K H vs fs → DpAll K H vs (datF fs)
  | [], _, h => by cases h; exact .nil
  | (l, d) :: r, _, h => by cases h with | cons a b c => exact .cons (.tup a (.cons (.str _) (.cons (isJ_dp d _ b) .nil))) (isJs_dp r _ c)
end
theorem IsJ.keep {d : Kd} {v : V} (h : IsJ K H v d) (k : Keep S H H') : IsJ K H' v d := isJ_keep k d v h
end
/-- entries: an expression and its kind -/
inductive IsEnt (K : PySem.W.Frag) (H : Hp) : List V → List (Ex × Kd) → Prop
  | nil : IsEnt K H [] []
  | cons {p b : Addr} {x : V} {e : Ex} {k : Kd} {vs : List V} {es : List (Ex × Kd)} : SqT K H p [x, .ref b] → IsX K H x e → IsJ K H (.ref b) k → IsEnt K H vs es → IsEnt K H (.ref p :: vs) ((e, k) :: es)
/-- fields as they are gathered -/
inductive IsFl (K : PySem.W.Frag) (H : Hp) : List V → List (Str × Kd) → Prop
  | nil : IsFl K H [] []
  | cons {t b : Addr} {l : Str} {k : Kd} {vs : List V} {fs : List (Str × Kd)} : H t = some (.tup [.str l, .ref b]) → IsJ K H (.ref b) k → IsFl K H vs fs → IsFl K H (.ref t :: vs) ((l, k) :: fs)
section
variable {K : PySem.W.Frag} {S : Addr → Prop} {H H' : Hp}
theorem IsEnt.keep (k : Keep S H H') : ∀ {vs : List V} {es : List (Ex × Kd)}, IsEnt K H vs es → IsEnt K H' vs es
  | _, _, .nil => .nil
  | _, _, .cons a b c d => .cons (sqT_keep k a) (b.keep k) (c.keep k) (IsEnt.keep k d)
theorem IsEnt.length : ∀ {vs : List V} {es : List (Ex × Kd)}, IsEnt K H vs es → vs.length = es.length
  | _, _, .nil => rfl
  | _, _, .cons a b c d => by simp [d.length]
theorem IsEnt.app : ∀ {vs us : List V} {es fs : List (Ex × Kd)}, IsEnt K H vs es → IsEnt K H us fs → IsEnt K H (vs ++ us) (es ++ fs)
  | _, _, _, _, .nil, h => h
  | _, _, _, _, .cons a b c d, h => .cons a b c (IsEnt.app d h)
theorem IsEnt.get : ∀ {vs : List V} {es : List (Ex × Kd)} {i : Nat} {v : V}, IsEnt K H vs es → vs[i]? = some v → ∃ p b x e k, v = .ref p ∧ SqT K H p [x, .ref b] ∧ IsX K H x e ∧ IsJ K H (.ref b) k ∧ es[i]? = some (e, k)
  | _, _, _, _, .nil, e => by simp at e
  | _, _, 0, _, .cons a b c d, e => by
    simp at e
    subst e
    exact ⟨_, _, _, _, _, rfl, a, b, c, rfl⟩
  | _, _, i + 1, _, .cons a b c d, e => by
    obtain ⟨p, q, x, f, k, h1, h2, h3, h4, h5⟩ := d.get (i := i) (by simpa using e)
    exact ⟨p, q, x, f, k, h1, h2, h3, h4, by simpa using h5⟩
theorem IsFl.keep (k : Keep S H H') : ∀ {vs : List V} {es : List (Str × Kd)}, IsFl K H vs es → IsFl K H' vs es
  | _, _, .nil => .nil
  | _, _, .cons a b c => .cons (k.tup a) (b.keep k) (IsFl.keep k c)
theorem IsFl.length : ∀ {vs : List V} {es : List (Str × Kd)}, IsFl K H vs es → vs.length = es.length
  | _, _, .nil => rfl
  | _, _, .cons a b c => by simp [c.length]
theorem IsFl.app : ∀ {vs us : List V} {es fs : List (Str × Kd)}, IsFl K H vs es → IsFl K H us fs → IsFl K H (vs ++ us) (es ++ fs)
  | _, _, _, _, .nil, h => h
  | _, _, _, _, .cons a b c, h => .cons a b (IsFl.app c h)
end
def recX (lab : Nat → Str) : Ex → Nat → List (Ex × Kd) → Ex
  | acc, _, [] => acc
  | acc, i, (e, _) :: r => recX lab (.wth (lab i) e acc) (i + 1) r
def recF (lab : Nat → Str) : Nat → List (Ex × Kd) → List (Str × Kd)
  | _, [] => []
  | i, (_, k) :: r => (lab i, k) :: recF lab (i + 1) r
theorem recX_snoc (lab : Nat → Str) (e : Ex) (k : Kd) : ∀ (es : List (Ex × Kd)) (acc : Ex) (i : Nat), recX lab acc i (es ++ [(e, k)]) = .wth (lab (i + es.length)) e (recX lab acc i es)
  | [], acc, i => rfl
  | (f, j) :: r, acc, i => by
    show recX lab (.wth (lab i) f acc) (i + 1) (r ++ [(e, k)]) = _
    rw [recX_snoc lab e k r _ (i + 1)]
    show _ = Ex.wth (lab (i + (r.length + 1))) e (recX lab (.wth (lab i) f acc) (i + 1) r)
    rw [show i + 1 + r.length = i + (r.length + 1) from by omega]
theorem recF_snoc (lab : Nat → Str) (e : Ex) (k : Kd) : ∀ (es : List (Ex × Kd)) (i : Nat), recF lab i (es ++ [(e, k)]) = recF lab i es ++ [(lab (i + es.length), k)]
  | [], i => rfl
  | (f, j) :: r, i => by
    show (lab i, j) :: recF lab (i + 1) (r ++ [(e, k)]) = _
    rw [recF_snoc lab e k r (i + 1)]
    show _ = ((lab i, j) :: recF lab (i + 1) r) ++ [(lab (i + (r.length + 1)), k)]
    rw [show i + 1 + r.length = i + (r.length + 1) from by omega]
    rfl
def labAt (ls : List Str) (s : Int) (i : Nat) : Str := ls.getD ((s + (i : Int)) % 8).toNat Str.empty
/-- the label of a gathered field -/
def lbV (H : Hp) : V → Str
  | .ref t => match H t with
    | some (.tup (.str l :: _)) => l
    | _ => Str.empty
  | _ => Str.empty
theorem IsFl.lbs {K : PySem.W.Frag} {H : Hp} : ∀ {vs : List V} {fs : List (Str × Kd)}, IsFl K H vs fs → vs.map (lbV H) = fs.map (·.1) ∧ ∀ x ∈ vs, ∃ t b, x = V.ref t ∧ SqT K H t [.str (lbV H x), .ref b]
  | _, _, .nil => ⟨rfl, fun x h => by cases h⟩
  | _, _, .cons (t := t) (b := b) (l := l) a j r => by
    obtain ⟨h1, h2⟩ := r.lbs
    have hl : lbV H (.ref t) = l := by
      show (match H t with | some (.tup (.str l :: _)) => l | _ => Str.empty) = l
      rw [a]
    refine ⟨by rw [List.map_cons, List.map_cons, h1, hl], fun x hx => ?_⟩
    rcases List.mem_cons.mp hx with rfl | hx
    · exact ⟨t, b, rfl, by rw [hl]; exact .of a⟩
    · exact h2 x hx
theorem fl_sorted {K : PySem.W.Frag} {H : Hp} {xs ys : List V} {fs : List (Str × Kd)} (h : IsFl K H xs fs) (nd : (fs.map (·.1)).Nodup) (pm : ys.Perm xs) (pw : ys.Pairwise fun x y => (lbV H x).cps.toList < (lbV H y).cps.toList) : IsJs K H ys (srt fs) := by
  obtain ⟨ws, e1, e2, hz⟩ : ∃ ws : List (Str × (V × Kd)), xs = ws.map (fun w => w.2.1) ∧ fs = ws.map (fun w => (w.1, w.2.2)) ∧ ∀ w ∈ ws, lbV H w.2.1 = w.1 ∧ ∃ t b, w.2.1 = .ref t ∧ H t = some (.tup [.str w.1, .ref b]) ∧ IsJ K H (.ref b) w.2.2 := by
    clear nd pm pw
    induction h with
    | nil => exact ⟨[], rfl, rfl, fun w hw => by cases hw⟩
    | @cons t b l k vs fs a j _ ih =>
      obtain ⟨ws, e1, e2, hz⟩ := ih
      refine ⟨(l, (.ref t, k)) :: ws, by rw [List.map_cons, ← e1], by rw [List.map_cons, ← e2], fun w hw => ?_⟩
      rcases List.mem_cons.mp hw with rfl | hw
      · refine ⟨?_, t, b, rfl, a, j⟩
        show (match H t with | some (.tup (.str l :: _)) => l | _ => Str.empty) = l
        rw [a]
      · exact hz w hw
  have ndw : (ws.map (·.1)).Nodup := by
    rw [e2, List.map_map] at nd
    exact nd
  have hs : ∀ w ∈ srt ws, lbV H w.2.1 = w.1 ∧ ∃ t b, w.2.1 = .ref t ∧ H t = some (.tup [.str w.1, .ref b]) ∧ IsJ K H (.ref b) w.2.2 := fun w hw => hz w ((srt_perm ws).subset hw)
  have ey : ys = (srt ws).map fun w => w.2.1 := by
    refine sorted_unique (lbV H) (pm.trans ?_) pw ?_
    · rw [e1]
      exact ((srt_perm ws).map _).symm
    · rw [List.pairwise_map]
      refine List.Pairwise.imp_of_mem ?_ (srt_pw ndw)
      intro a b ha hb hab
      rw [(hs a ha).1, (hs b hb).1]
      exact hab
  have ef : srt fs = (srt ws).map fun w => (w.1, w.2.2) := by
    rw [e2]
    exact (srt_map (fun x : V × Kd => x.2) ndw).symm
  rw [ey, ef]
  generalize srt ws = us at hs
  induction us with
  | nil => exact .nil
  | cons w r ih =>
    obtain ⟨_, t, b, e1, e2, e3⟩ := hs w List.mem_cons_self
    rw [List.map_cons, List.map_cons, e1]
    exact .cons (.of e2) e3 (ih fun x hx => hs x (List.mem_cons_of_mem _ hx))
abbrev s_record : Stmt := top 58
theorem sc_record : FnScope ["_law_told_of", "_law_labels_here", "_law_start", "_law_told", "_law_fields", "_law_k", "_law_entry", "_law_label"] ["_law_told_of", "_law_labels_here", "_law_start"] (defScope s_record) := ⟨rfl, rfl, rfl, by decide +kernel, rfl, by decide +kernel, by decide +kernel⟩
theorem lab_inj {ls : List Str} (ok : LabOk ls) (s : Int) {i j : Nat} (hi : i < 8) (hj : j < 8) (e : labAt ls s i = labAt ls s j) : i = j := by
  unfold labAt at e
  have a1 : 0 ≤ (s + (i : Int)) % 8 := Int.emod_nonneg _ (by decide)
  have a2 : (s + (i : Int)) % 8 < 8 := Int.emod_lt_of_pos _ (by decide)
  have b1 : 0 ≤ (s + (j : Int)) % 8 := Int.emod_nonneg _ (by decide)
  have b2 : (s + (j : Int)) % 8 < 8 := Int.emod_lt_of_pos _ (by decide)
  have l1 : ((s + (i : Int)) % 8).toNat < ls.length := by rw [ok.len]; omega
  have l2 : ((s + (j : Int)) % 8).toNat < ls.length := by rw [ok.len]; omega
  rw [List.getD_eq_getElem?_getD, List.getD_eq_getElem?_getD, List.getElem?_eq_getElem l1, List.getElem?_eq_getElem l2] at e
  have e : ls[((s + (i : Int)) % 8).toNat] = ls[((s + (j : Int)) % 8).toNat] := e
  have := (List.getElem_inj ok.nd).mp e
  omega
theorem lab_mem {ls : List Str} (ok : LabOk ls) (s : Int) (i : Nat) : labAt ls s i ∈ ls ∧ atI (ls.map V.str) ((s + (i : Int)) % 8) = some (.str (labAt ls s i)) := by
  have a1 : 0 ≤ (s + (i : Int)) % 8 := Int.emod_nonneg _ (by decide)
  have a2 : (s + (i : Int)) % 8 < 8 := Int.emod_lt_of_pos _ (by decide)
  have l1 : ((s + (i : Int)) % 8).toNat < ls.length := by rw [ok.len]; omega
  have e : labAt ls s i = ls[((s + (i : Int)) % 8).toNat] := by
    unfold labAt
    rw [List.getD_eq_getElem?_getD, List.getElem?_eq_getElem l1]
    rfl
  refine ⟨by rw [e]; exact List.getElem_mem l1, ?_⟩
  have hn : (s + (i : Int)) % 8 = (((s + (i : Int)) % 8).toNat : Int) := (Int.toNat_of_nonneg a1).symm
  refine (congrArg (atI (ls.map V.str)) hn).trans (atI_nat ?_)
  rw [List.getElem?_map, List.getElem?_eq_getElem l1, e]
  rfl
theorem recF_keys {ls : List Str} (ok : LabOk ls) (s : Int) : ∀ (es : List (Ex × Kd)) (i : Nat), i + es.length ≤ 8 → ((recF (labAt ls s) i es).map (·.1)).Nodup ∧ ∀ x ∈ (recF (labAt ls s) i es).map (·.1), ∃ j, i ≤ j ∧ j < 8 ∧ x = labAt ls s j
  | [], i, _ => ⟨List.nodup_nil, fun x h => by cases h⟩
  | (e, k) :: r, i, h => by
    simp only [List.length_cons] at h
    obtain ⟨h1, h2⟩ := recF_keys ok s r (i + 1) (by omega)
    refine ⟨List.nodup_cons.mpr ⟨fun z => ?_, h1⟩, fun x hx => ?_⟩
    · obtain ⟨j, j1, j2, j3⟩ := h2 _ z
      have := lab_inj ok s (by omega) j2 j3
      omega
    · rcases List.mem_cons.mp hx with rfl | hx
      · exact ⟨i, Nat.le_refl _, by omega, rfl⟩
      · obtain ⟨j, j1, j2, j3⟩ := h2 _ hx
        exact ⟨j, by omega, j2, j3⟩
def sp_record (K : PySem.W.Frag) : Sp := fun vs H Q _ => ∃ (Le Ll : Addr) (s : Int) (ls : List Str) (xs : List V) (es : List (Ex × Kd)), vs = [.ref Le, .ref Ll, .int s] ∧ H Le = some (.lst xs) ∧ IsEnt K H xs es ∧ H Ll = some (.lst (ls.map V.str)) ∧ LabOk ls ∧ es.length ≤ 8 ∧
  ∀ (p b : Addr) (x : V) (H' : Hp), Same H H' → H' p = some (.tup [x, .ref b]) → IsX K H' x (recX (labAt ls s) .empty 0 es) → IsJ K H' (.ref b) (.rc (srt (recF (labAt ls s) 0 es)) none) → Q (.ref p) H'
section
variable {P : Program} {wd : World} {K : PySem.W.Frag} {mg : Str → Option Value} {base : Heap} {C CN CW : Addr}
theorem ok_record (D : Dfn K mg "_law_record" s_record ["_law_told_of", "_law_labels_here", "_law_start"]) (T : Txt K mg) : Cal P wd K mg base CX0 1 "_law_record" ["_law_told_of", "_law_labels_here", "_law_start"] (sp_record K) := by
  have S := sc_record
  refine cal_of D S (fun vs H Q E h => ?_) (fun f cdv A outer s0 H vs Q E hr h => ?_)
  · obtain ⟨Le, Ll, s, ls, xs, es, rfl, _⟩ := h
    rfl
  obtain ⟨Le, Ll, s, ls, xs, es, rfl, he, ie, hl, ok, h8, q⟩ := h
  refine ⟨_, (pss_cons (ps_set (i := 3) S.nd rfl (Or.inl rfl) (pe_tup (pa_cons pe_str pa_nil)))
    (pss_cons (ps_set (i := 4) S.nd rfl (Or.inl rfl) (pe_lst pa_nil))
    (pss_cons (ps_for PassesOwn.never rfl (pi_enum rfl T.enumerate (pa_cons (pv 0) pa_nil)) (pg_tup rfl (pgs_cons (pg_name (i := 5) S.nd rfl (Or.inl rfl)) (pgs_cons (pg_name (i := 6) S.nd rfl (Or.inl rfl)) pgs_nil)))
      (pss_cons (ps_set (i := 7) S.nd rfl (Or.inl rfl) (pe_ix ix_list (pv 1) (pe_op op_mod (pe_op op_add (pv 2) (pv 5)) pe_int) (fun _ _ => rfl)))
      (pss_cons (ps_set (i := 3) S.nd rfl (Or.inl rfl) (pe_tup (pa_cons pe_str (pa_cons (pv 7) (pa_cons (pe_ix ix_tup (pv 6) pe_int (fun _ _ => rfl)) (pa_cons (pv 3) pa_nil))))))
      (pss_one (ps_expr (pe_bm PySem.F.plainAttrs_list PySem.F.slot_list_append PySem.F.type_list_append mt_append (pv 4) (pa_cons (pe_tup (pa_cons (pv 7) (pa_cons (pe_ix ix_tup (pv 6) pe_int (fun _ _ => rfl)) pa_nil))) pa_nil)))))))
    (pss_one (ps_ret (pe_tup (pa_cons (pv 3) (pa_cons (pe_tup (pa_cons pe_str (pa_cons (pe_tup (pa_cons pe_str (pa_cons (pe_tupleOf rfl T.tuple (pe_callB cr_sortedSO rfl T.sorted (by decide +kernel) (pa_cons (pv 4) pa_nil))) (pa_cons pe_non pa_nil)))) pa_nil))) pa_nil)))))))), ?_⟩
  refine ⟨(by show 1 ≤ sizeLine; decide), fun p0 n0 => ?_⟩
  refine newG n0 fun H1 s1 g1 => ?_
  refine ⟨(by show 0 ≤ sizeLine; decide), fun Lf nf => ?_⟩
  refine newG nf fun H2 s2 g2 => ?_
  have s12 := s1.trans s2
  have nfH : H Lf = none := s1.free nf
  have lx := ie.length
  refine ⟨_, rfl, Le, xs, rfl, .of (s12 _ _ he), for_it (walk_enum (K := K) (a := Le) (xs := xs)) (fun i σ G => ∃ (told : V) (fs : List V) (x y z : Option V), σ = [some (.ref Le), some (.ref Ll), some (.int s), some told, some (.ref Lf), x, y, z] ∧ Same H G ∧ IsX K G told (recX (labAt ls s) .empty 0 (es.take i)) ∧
      G Lf = some (.lst fs) ∧ IsFl K G fs (recF (labAt ls s) 0 (es.take i)))
    ⟨.ref p0, [], none, none, none, rfl, s12, .empty (.of (s2 _ _ g1)), g2, .nil⟩ (fun i σ G _ ⟨_, _, _, _, _, _, sg, _⟩ => .of (sg _ _ he)) ?_ ?_⟩
  · rintro i x σ G G' hi ⟨told, fs, x1, y1, z1, rfl, sG, hx, gf, ifl⟩ ⟨T2, u1, u2, rfl, nT, rfl, eu1, eu2⟩
    cases eu1
    obtain ⟨p, b, x', e, k, rfl, c1, c2, c3, c4⟩ := ie.get eu2
    refine newG nT fun G1 t1 gT => ?_
    refine ⟨T2, _, rfl, .of gT, rfl, _, _, rfl, _, _, rfl, rfl, ?_⟩
    have sG1 := sG.trans t1
    obtain ⟨lm, la⟩ := lab_mem ok s i
    refine ⟨_, rfl, _, rfl, _, rfl, _, _, rfl, rfl, _, _, rfl, rfl, (by show (0 : Int) < _; decide), Ll, _, _, _, rfl, rfl, .of (sG1 _ _ hl), la, ?_⟩
    refine ⟨_, rfl, _, rfl, p, _, _, _, rfl, rfl, sqT_keep (same_keep sG1) c1, atI_nat rfl, _, rfl, (by show 4 ≤ sizeLine; decide), fun q1 nq1 => ?_⟩
    refine newG nq1 fun G2 t2 gq1 => ?_
    have sG2 := sG1.trans t2
    have t12 := t1.trans t2
    refine ⟨_, rfl, .inl ⟨rfl, _, .of (t12 _ _ gf)⟩, _, rfl, _, rfl, p, _, _, _, rfl, rfl, sqT_keep (same_keep sG2) c1, atI_nat rfl, (by show 2 ≤ sizeLine; decide), fun q2 nq2 => ?_⟩
    refine newG nq2 fun G3 t3 gq2 => ?_
    have t13 := t12.trans t3
    have sG3 := sG2.trans t3
    have lfl := ifl.length
    have l8 : (recF (labAt ls s) 0 (es.take i)).length ≤ 8 := by
      have key : ∀ (es : List (Ex × Kd)) (i : Nat), (recF (labAt ls s) i es).length = es.length := by
        intro es
        induction es with
        | nil => exact fun i => rfl
        | cons e r ih =>
          intro i
          obtain ⟨e, k⟩ := e
          show (recF _ (i + 1) r).length + 1 = r.length + 1
          rw [ih]
      rw [key, List.length_take]
      omega
    refine ⟨Lf, fs, _, rfl, rfl, t13 _ _ gf, sz_lt (by omega), ?_⟩
    refine mutG (t13 _ _ gf) rfl fun G4 k4 g4 => ?_
    have ltk : (es.take i).length = i := by
      have := (List.getElem?_eq_some_iff.mp c4).1
      rw [List.length_take]
      omega
    have kk : Keep (· = Lf) G G4 := (same_keep t13).mono (fun _ z => z.elim) |>.tr k4
    have k04 : Keep (· = Lf) H G4 := (same_keep sG).mono (S' := (· = Lf)) (fun _ z => z.elim) |>.tr kk
    refine ⟨_, _, _, _, _, rfl, same_over sG3 k4 nfH, ?_, g4, ?_⟩
    · rw [take_snoc c4, recX_snoc, ltk, Nat.zero_add]
      exact .wth (sqT_keep k4 (.of (t3 _ _ gq1))) (c2.keep k04) (hx.keep kk)
    · rw [take_snoc c4, recF_snoc, ltk, Nat.zero_add]
      exact (ifl.keep kk).app (.cons (k4.tup gq2) (c3.keep k04) .nil)
  · rintro σ G ⟨told, fs, x1, y1, z1, rfl, sG, hx, gf, ifl⟩
    rw [lx, List.take_length] at hx ifl
    obtain ⟨nd, _⟩ := recF_keys ok s es 0 (by omega)
    obtain ⟨lb1, lb2⟩ := ifl.lbs
    refine ⟨_, rfl, _, rfl, Lf, fs, lbV G, rfl, .of gf, lb2, by rw [lb1]; exact nd, fun ys p1 pm pw np1 => ?_⟩
    refine newG np1 fun G1 t1 gp1 => ?_
    refine .inl ⟨p1, ys, rfl, .of gp1, fun q1 nq1 => ?_⟩
    refine newG nq1 fun G2 t2 gq1 => ?_
    refine ⟨(by show 3 ≤ sizeLine; decide), fun q2 nq2 => ?_⟩
    refine newG nq2 fun G3 t3 gq2 => ?_
    refine ⟨(by show 2 ≤ sizeLine; decide), fun q3 nq3 => ?_⟩
    refine newG nq3 fun G4 t4 gq3 => ?_
    refine ⟨(by show 2 ≤ sizeLine; decide), newO (Q := fun p H' => Q (.ref p) H') fun q4 G5 n5 t5 gq4 => ?_⟩
    have t45 := t4.trans t5
    have t35 := t3.trans t45
    have t05 := t1.trans (t2.trans t35)
    have js := fl_sorted ifl nd pm pw
    exact q q4 q3 told G5 (sG.trans t05) gq4 (hx.keep (same_keep t05)) (.rc (.of (t5 _ _ gq3)) (.of (t45 _ _ gq2)) (.of (t35 _ _ gq1)) (isJs_keep (same_keep t05) _ _ js))
end
end Fw
/-! Fw25: the law's defs: _law_handed. -/
namespace Fw
open PySem PySem.Spec PyProof.Rows L2
/-- an expression within bounds -/
structure XOk (ls : List Str) (s d f k : Nat) (e : Ex) : Prop where
  sm : Sm nm0 0 e
  wf : Wf e
  lb : LbOk ls e []
  sz : sz e ≤ s
  dp : e.dp ≤ d
  fu : fuel e ≤ f
  kd : (kdE 0 e).dp ≤ k
theorem srt_perm_eq {α : Type} {l1 l2 : List (Str × α)} (p : l1.Perm l2) (n : (l2.map (·.1)).Nodup) : srt l1 = srt l2 := by
  have n1 : (l1.map (·.1)).Nodup := (p.map _).nodup_iff.mpr n
  exact sorted_unique (fun x => x.1) ((srt_perm l1).trans (p.trans (srt_perm l2).symm)) (srt_pw n1) (srt_pw n)
theorem dpF_le {k : Nat} : ∀ {fs : List (Str × Kd)}, (∀ x ∈ fs, x.2.dp ≤ k) → dpF fs ≤ k
  | [], _ => Nat.zero_le _
  | (l, d) :: r, h => by
    have h1 := h (l, d) List.mem_cons_self
    have h2 := dpF_le (fs := r) fun x hx => h x (List.mem_cons_of_mem _ hx)
    show max d.dp (dpF r) ≤ k
    have h1 : d.dp ≤ k := h1
    omega
structure RecOk (ls : List Str) (es : List (Ex × Kd)) (st : Int) (s d f k n : Nat) (R : Ex) : Prop where
  sm : Sm nm0 0 R
  rc : isRec R
  wf : Wf R
  ch : chn R = ((recF (labAt ls st) 0 es).map (·.1)).reverse
  fl : fldsE 0 R = (recF (labAt ls st) 0 es).reverse
  lb : ∀ c, (∀ x ∈ chn R, x ∉ c) → LbOk ls R c
  sz : sz R ≤ 1 + n * (s + 1)
  dp : R.dp ≤ d + n
  fu : fuel R ≤ f + 1
  kd : ∀ x ∈ fldsE 0 R, x.2.dp ≤ k
theorem recF_len {lab : Nat → Str} : ∀ (es : List (Ex × Kd)) (i : Nat), (recF lab i es).length = es.length
  | [], _ => rfl
  | (e, k) :: r, i => by
    show (recF lab (i + 1) r).length + 1 = r.length + 1
    rw [recF_len r (i + 1)]
theorem rec_ok {ls : List Str} (ok : LabOk ls) (st : Int) {s d f k : Nat} (f1 : 1 ≤ f) : ∀ (n : Nat) (es : List (Ex × Kd)), es.length = n → n ≤ 8 → (∀ x ∈ es, XOk ls s d f k x.1 ∧ x.2 = kdE 0 x.1) → RecOk ls es st s d f k n (recX (labAt ls st) .empty 0 es)
  | 0, es, he, _, _ => by
    have : es = [] := List.length_eq_zero_iff.mp he
    subst this
    exact ⟨trivial, trivial, trivial, rfl, rfl, fun c _ => trivial, by show 1 ≤ _; omega, Nat.zero_le _, by show 1 ≤ _; omega, fun x h => by cases h⟩
  | n + 1, es, he, hn, hx => by
    have hne : es ≠ [] := by rintro rfl; cases he
    obtain ⟨e, kd, hl⟩ : ∃ e kd, es.getLast hne = (e, kd) := ⟨_, _, rfl⟩
    have hes : es = es.dropLast ++ [es.getLast hne] := (List.dropLast_concat_getLast hne).symm
    rw [hl] at hes
    have hi : es.dropLast.length = n := by rw [List.length_dropLast]; omega
    have ih := rec_ok ok st f1 n es.dropLast hi (by omega) fun x hx' => hx x ((List.dropLast_sublist es).subset hx')
    obtain ⟨xo, kx⟩ := hx (e, kd) (by rw [hes]; exact List.mem_append_right _ List.mem_cons_self)
    have kx : kd = kdE 0 e := kx
    have xo : XOk ls s d f k e := xo
    obtain ⟨nd, _⟩ := recF_keys ok st es 0 (by omega)
    rw [hes, recF_snoc, hi, Nat.zero_add, List.map_append] at nd
    have nl : labAt ls st n ∉ (recF (labAt ls st) 0 es.dropLast).map (·.1) := fun z => (List.nodup_append.mp nd).2.2 _ z _ List.mem_cons_self rfl
    have ncl : labAt ls st n ∉ chn (recX (labAt ls st) .empty 0 es.dropLast) := by
      rw [ih.ch, List.mem_reverse]
      exact nl
    have lcl : (chn (recX (labAt ls st) .empty 0 es.dropLast)).length = n := by
      rw [ih.ch, List.length_reverse, List.length_map, recF_len, hi]
    obtain ⟨lm, _⟩ := lab_mem ok st n
    have lok := (ok.ok _ lm).1
    have eR : recX (labAt ls st) .empty 0 es = .wth (labAt ls st n) e (recX (labAt ls st) .empty 0 es.dropLast) := by
      conv => lhs; rw [hes]
      rw [recX_snoc, hi, Nat.zero_add]
    have eF : recF (labAt ls st) 0 es = recF (labAt ls st) 0 es.dropLast ++ [(labAt ls st n, kd)] := by
      conv => lhs; rw [hes]
      rw [recF_snoc, hi, Nat.zero_add]
    rw [eR]
    generalize recX (labAt ls st) .empty 0 es.dropLast = R at ih ncl lcl
    have h1 := ih.sz
    have h2 := ih.dp
    have h3 := ih.fu
    have h4 := xo.sz
    have h5 := xo.dp
    have h6 := xo.fu
    have mul : (n + 1) * (s + 1) = n * (s + 1) + (s + 1) := Nat.succ_mul _ _
    refine ⟨⟨xo.sm, ih.sm, ih.rc⟩, trivial, ⟨ncl, by omega, xo.wf, ih.wf⟩, ?_, ?_, fun c hc => ?_, ?_, ?_, ?_, fun x hx' => ?_⟩
    · show labAt ls st n :: chn R = _
      rw [eF, List.map_append, List.reverse_append, ih.ch]
      rfl
    · show (labAt ls st n, kdE 0 e) :: fldsE 0 R = _
      rw [eF, List.reverse_append, ih.fl, kx]
      rfl
    · refine ⟨hc _ List.mem_cons_self, lm, lok, xo.lb, ih.lb _ fun x hx' => ?_⟩
      intro z
      rcases List.mem_cons.mp z with rfl | z
      · exact ncl hx'
      · exact hc x (List.mem_cons_of_mem _ hx') z
    · show Fw.sz e + Fw.sz R + 1 ≤ _
      omega
    · show max e.dp R.dp + 1 ≤ _
      omega
    · show max (fuel e + 1) (fuel R) ≤ _
      omega
    · rcases List.mem_cons.mp hx' with rfl | hx'
      · exact xo.kd
      · exact ih.kd x hx'
theorem RecOk.xok {ls : List Str} (ok : LabOk ls) {es : List (Ex × Kd)} {st : Int} {s d f k n : Nat} {R : Ex} (h : RecOk ls es st s d f k n R) (hn : n ≤ 8) (he : es.length = n) : XOk ls (1 + n * (s + 1)) (d + n) (f + 1) (k + 1) R ∧ kdE 0 R = .rc (srt (recF (labAt ls st) 0 es)) none := by
  obtain ⟨nd, _⟩ := recF_keys ok st es 0 (by omega)
  have ek : kdE 0 R = .rc (srt (fldsE 0 R)) none := by
    have rc := h.rc
    cases R with
    | empty =>
      show Kd.rc [] none = .rc (srt []) none
      rw [show srt ([] : List (Str × Kd)) = [] from by simp [srt]]
    | wth l e r => rfl
    | num _ => exact rc.elim
    | name _ => exact rc.elim
    | lam _ _ => exact rc.elim
    | app _ _ => exact rc.elim
  refine ⟨⟨h.sm, h.wf, h.lb [] fun x _ z => (by cases z), h.sz, h.dp, h.fu, ?_⟩, ?_⟩
  · rw [ek]
    show dpF (srt (fldsE 0 R)) + 1 ≤ k + 1
    have := dpF_le (k := k) (fs := srt (fldsE 0 R)) fun x hx => h.kd x ((srt_perm _).subset hx)
    omega
  · rw [ek, h.fl, srt_perm_eq (List.reverse_perm _) nd]
abbrev s_handed : Stmt := top 59
theorem sc_handed : FnScope ["_law_cells", "_law_labels_here", "_law_entries", "_law_k", "_law_many_here", "_law_inner", "_law_j"] ["_law_cells", "_law_labels_here"] (defScope s_handed) := ⟨rfl, rfl, rfl, by decide +kernel, rfl, by decide +kernel, by decide +kernel⟩
def sp_handed (K : PySem.W.Frag) : Sp := fun vs H Q _ => ∃ (Lc Ll : Addr) (cs : List Int) (ls : List Str), vs = [.ref Lc, .ref Ll] ∧ H Lc = some (.lst (cs.map V.int)) ∧ cs.length = 10 ∧ H Ll = some (.lst (ls.map V.str)) ∧ LabOk ls ∧
  ∀ (p b : Addr) (x : V) (E : Ex) (H' : Hp), Same H H' → H' p = some (.tup [x, .ref b]) → IsX K H' x E → IsJ K H' (.ref b) (kdE 0 E) → XOk ls 71 11 3 2 E → Q (.ref p) H'
theorem pick3 (c z : Int) (h0 : 0 ≤ z) (h6 : z ≤ 6) : ∃ m : Int, 0 ≤ m ∧ m ≤ 6 ∧ atI [V.int 5, V.int 6, V.int z] (c % 3) = some (.int m) := by
  have a1 : 0 ≤ c % 3 := Int.emod_nonneg _ (by decide)
  have a2 : c % 3 < 3 := Int.emod_lt_of_pos _ (by decide)
  have : c % 3 = 0 ∨ c % 3 = 1 ∨ c % 3 = 2 := by omega
  rcases this with e | e | e
  · rw [e]; exact ⟨5, by decide, by decide, rfl⟩
  · rw [e]; exact ⟨6, by decide, by decide, rfl⟩
  · rw [e]; exact ⟨z, h0, h6, rfl⟩
section
variable {P : Program} {wd : World} {K : PySem.W.Frag} {mg : Str → Option Value} {base : Heap} {C CN CW : Addr}
theorem ok_handed (D : Dfn K mg "_law_handed" s_handed ["_law_cells", "_law_labels_here"]) (T : Txt K mg) (c_record : Cal P wd K mg base CX0 1 "_law_record" ["_law_told_of", "_law_labels_here", "_law_start"] (sp_record K)) : Cal P wd K mg base CX0 2 "_law_handed" ["_law_cells", "_law_labels_here"] (sp_handed K) := by
  have S := sc_handed
  refine cal_of D S (fun vs H Q E h => ?_) (fun f cdv A outer s0 H vs Q E hr h => ?_)
  · obtain ⟨Lc, Ll, cs, ls, rfl, _⟩ := h
    rfl
  obtain ⟨Lc, Ll, cs, ls, rfl, hc, c10, hl, ok, q⟩ := h
  refine ⟨_, (pss_cons (ps_set (i := 2) S.nd rfl (Or.inl rfl) (pe_lst pa_nil))
    (pss_cons (ps_for PassesOwn.never rfl (pi_range1 rfl T.range (pa_cons (pe_op op_add pe_int (pe_op op_mod (pe_ix ix_list (pv 0) pe_int (fun _ _ => rfl)) pe_int)) pa_nil)) (pg_name (i := 3) S.nd rfl (Or.inl rfl))
      (pss_cons (ps_set (i := 4) S.nd rfl (Or.inl rfl) (pe_ix ix_list (pe_lst (pa_cons pe_int (pa_cons pe_int (pa_cons (pe_op op_mod (pe_op op_fdiv (pe_ix ix_list (pv 0) (pe_op op_add pe_int (pv 3)) (fun _ _ => rfl)) pe_int) pe_int) pa_nil)))) (pe_op op_mod (pe_ix ix_list (pv 0) (pe_op op_add pe_int (pv 3)) (fun _ _ => rfl)) pe_int) (fun _ _ => rfl)))
      (pss_cons (ps_setLc (i := 5) (own := [("_law_j", 6)]) rfl S.nd rfl rfl (sw_true rfl rfl rfl (by decide +kernel)) (pi_range1 rfl T.range (pa_cons (pv 4) pa_nil)) (blkOk_by (own := [("_law_j", 6)]) (N := ["_law_cells", "_law_labels_here", "_law_entries", "_law_k", "_law_many_here", "_law_inner", "_law_j"]) (sc := defScope s_handed) (by decide +kernel)) (fun _ _ _ _ _ => (pg_name (i := 6) S.nd rfl (Or.inl rfl))) (fun _ _ _ _ _ => pts_nil) (fun _ _ _ _ _ => (pe_tup (pa_cons (pe_tup (pa_cons pe_str (pa_cons (pe_op op_mod (pe_op op_fdiv (pe_ix (ix_listK (K := K) rfl) (pv 0) pe_int (fun _ _ => rfl)) (pe_op op_add (pv 6) pe_int)) pe_int) pa_nil))) (pa_cons (pe_tup (pa_cons pe_str pa_nil)) pa_nil)))))
      (pss_one (ps_expr (pe_bm PySem.F.plainAttrs_list PySem.F.slot_list_append PySem.F.type_list_append mt_append (pv 2) (pa_cons (pe_cal c_record hr pass0 (pa_cons (pv 5) (pa_cons (pv 1) (pa_cons (pe_op op_fdiv (pe_ix ix_list (pv 0) (pe_op op_add pe_int (pv 3)) (fun _ _ => rfl)) pe_int) pa_nil)))) pa_nil)))))))
    (pss_one (ps_ret (pe_cal c_record hr pass0 (pa_cons (pv 2) (pa_cons (pv 1) (pa_cons (pe_ix ix_list (pv 0) pe_int (fun _ _ => rfl)) pa_nil)))))))), ?_⟩
  have cg : ∀ i, i < 10 → ∃ c, (cs.map V.int)[i]? = some (.int c) := fun i hi => by
    have h : i < cs.length := by omega
    exact ⟨cs[i], by rw [List.getElem?_map, List.getElem?_eq_getElem h]; rfl⟩
  obtain ⟨c0, hc0⟩ := cg 0 (by decide)
  obtain ⟨c8, hc8⟩ := cg 8 (by decide)
  obtain ⟨c9, hc9⟩ := cg 9 (by decide)
  have m1 : 0 ≤ c0 % 5 := Int.emod_nonneg _ (by decide)
  have m2 : c0 % 5 < 5 := Int.emod_lt_of_pos _ (by decide)
  refine ⟨(by show 0 ≤ sizeLine; decide), fun Le nE => ?_⟩
  refine newG nE fun H1 s1 h1 => ?_
  refine ⟨_, rfl, Lc, _, _, _, rfl, rfl, .of (s1 _ _ hc), atI_nat hc0, _, _, rfl, rfl, (by show (0 : Int) < _; decide), _, _, rfl, rfl, 1 + c0 % 5, rfl, by omega, by omega, for_range (lo := 0) (n := (1 + c0 % 5).toNat) (fun i σ G => ∃ (x y z t : Option V) (us : List V) (es : List (Ex × Kd)), σ = [some (.ref Lc), some (.ref Ll), some (.ref Le), x, y, z, t] ∧ Same H G ∧ G Le = some (.lst us) ∧ IsEnt K G us es ∧ es.length = i ∧ ∀ x ∈ es, XOk ls 13 6 2 1 x.1 ∧ x.2 = kdE 0 x.1)
    ⟨none, none, none, none, [], [], rfl, s1, h1, .nil, rfl, fun x h => by cases h⟩ ?_ ?_⟩
  · rintro i σ G hi ⟨x, y, z, t, us, es, rfl, sG, gE, ie, le, hes⟩
    rw [Int.zero_add]
    have hi5 : i < 5 := by omega
    obtain ⟨ci, hci⟩ := cg (1 + i) (by omega)
    have hcat : atI (cs.map V.int) (1 + (i : Int)) = some (.int ci) := by
      have e : (1 + (i : Int)) = ((1 + i : Nat) : Int) := by omega
      rw [e]
      exact atI_nat hci
    have z1 : 0 ≤ ci / 8 % 7 := Int.emod_nonneg _ (by decide)
    have z2 : ci / 8 % 7 < 7 := Int.emod_lt_of_pos _ (by decide)
    obtain ⟨mh, mh0, mh6, hmh⟩ := pick3 ci (ci / 8 % 7) z1 (by omega)
    refine ⟨_, rfl, _, rfl, _, _, rfl, rfl, Lc, _, _, _, rfl, rfl, .of (sG _ _ hc), hcat, _, _, rfl, rfl, ⟨by decide, by decide⟩, _, _, rfl, rfl, (by show (0 : Int) < _; decide), (by show 3 ≤ sizeLine; decide), fun p3 n3 => ?_⟩
    refine newG n3 fun G1 t1 g3 => ?_
    have sG1 := sG.trans t1
    refine ⟨_, rfl, _, rfl, _, _, rfl, rfl, Lc, _, _, _, rfl, rfl, .of (sG1 _ _ hc), hcat, _, _, rfl, rfl, (by show (0 : Int) < _; decide), p3, _, _, _, rfl, rfl, .of g3, hmh, ?_⟩
    refine ⟨_, rfl, mh, rfl, by omega, by omega, fun D nD => ?_⟩
    refine lc_range (lo := 0) (n := mh.toNat) (fun j G' => ∃ us es, Same G1 G' ∧ G' D = some (.lst us) ∧ IsEnt K G' us es ∧ es.length = j ∧ ∀ x ∈ es, XOk ls 1 0 1 0 x.1 ∧ x.2 = kdE 0 x.1)
      ⟨[], [], keep_new (S := No) nD |>.toSame, upd_same, .nil, rfl, fun x h => by cases h⟩ ?_ ?_
    · rintro j G' hj ⟨us', es', s', gD, ie', le', hes'⟩
      rw [Int.zero_add]
      refine ⟨rfl, tyes ⟨_, rfl, Lc, _, _, _, rfl, rfl, .of (s' _ _ (sG1 _ _ hc)), atI_nat hc8, _, rfl, _, _, rfl, rfl, _, _, rfl, rfl, ⟨by show (0 : Int) < _; omega, by show _ < (1073741824 : Int); omega⟩, _, _, rfl, rfl, (by show (0 : Int) < _; decide), (by show 2 ≤ sizeLine; decide), fun q1 m1 => ?_⟩⟩
      refine newG m1 fun G2 t2 g1 => ?_
      refine ⟨(by show 1 ≤ sizeLine; decide), fun q2 m2 => ?_⟩
      refine newG m2 fun G3 t3 g2 => ?_
      refine ⟨(by show 2 ≤ sizeLine; decide), fun q3 m3 => ?_⟩
      refine newG m3 fun G4 t4 g3' => ?_
      have t34 := t3.trans t4
      have t24 := t2.trans t34
      have lu := ie'.length
      refine ⟨us', t24 _ _ gD, sz_lt (by omega), ?_⟩
      refine mutG (t24 _ _ gD) rfl fun G5 k5 g5 => ?_
      refine ⟨_, es' ++ [(.num (c8 / ((j : Int) + 1) % 1000000), .num)], same_over (s'.trans t24) k5 nD, g5, ((ie'.keep (same_keep t24)).keep k5).app (.cons (sqT_keep k5 (.of g3')) (.num (sqT_keep k5 (.of (t34 _ _ g1)))) (.num (sqT_keep k5 (.of (t4 _ _ g2)))) .nil), by rw [List.length_append, le']; rfl, fun x hx => ?_⟩
      rcases List.mem_append.mp hx with hx | hx
      · exact hes' x hx
      · rw [List.mem_singleton] at hx
        subst hx
        exact ⟨⟨trivial, trivial, trivial, Nat.le_refl _, Nat.le_refl _, Nat.le_refl _, Nat.le_refl _⟩, rfl⟩
    · rintro G' ⟨us', es', s', gD, ie', le', hes'⟩
      have sG' := sG1.trans s'
      have lm : es'.length ≤ 6 := by omega
      refine ⟨_, rfl, .inl ⟨rfl, _, .of (s' _ _ (t1 _ _ gE))⟩, _, rfl, _, rfl, _, rfl, _, rfl, _, _, rfl, rfl, Lc, _, _, _, rfl, rfl, .of (sG' _ _ hc), hcat, _, _, rfl, rfl, ⟨by decide, by decide⟩, D, Ll, ci / 56, ls, us', es', rfl, gD, ie', sG' _ _ hl, ok, by omega, fun p b x H6 s6 g6 hx hj => ?_⟩
      have gE6 := s6 _ _ (s' _ _ (t1 _ _ gE))
      have lu := ie.length
      refine ⟨Le, us, _, rfl, rfl, gE6, sz_lt (by omega), ?_⟩
      refine mutG gE6 rfl fun G7 k7 g7 => ?_
      have nEH : H Le = none := nE
      have tt := t1.trans (s'.trans s6)
      obtain ⟨xo, ek⟩ := (rec_ok ok (ci / 56) (s := 1) (d := 0) (f := 1) (k := 0) (Nat.le_refl _) es'.length es' rfl (by omega) hes').xok ok (by omega) rfl
      have xo' : XOk ls 13 6 2 1 (recX (labAt ls (ci / 56)) .empty 0 es') := ⟨xo.sm, xo.wf, xo.lb, by have := xo.sz; omega, by have := xo.dp; omega, xo.fu, xo.kd⟩
      refine ⟨_, _, _, _, _, es ++ [(recX (labAt ls (ci / 56)) .empty 0 es', kdE 0 (recX (labAt ls (ci / 56)) .empty 0 es'))], rfl, same_over (sG.trans tt) k7 nEH, g7, ((ie.keep (same_keep tt)).keep k7).app (.cons (sqT_keep k7 (.of g6)) (hx.keep k7) (by rw [ek]; exact hj.keep k7) .nil), by rw [List.length_append, le]; rfl, fun x hx => ?_⟩
      rcases List.mem_append.mp hx with hx | hx
      · exact hes x hx
      · rw [List.mem_singleton] at hx
        subst hx
        exact ⟨xo', rfl⟩
  · rintro σ G ⟨x, y, z, t, us, es, rfl, sG, gE, ie, le, hes⟩
    have l5 : es.length ≤ 5 := by omega
    refine ⟨_, rfl, _, rfl, _, rfl, Lc, _, _, _, rfl, rfl, .of (sG _ _ hc), atI_nat hc9, Le, Ll, c9, ls, us, es, rfl, gE, ie, sG _ _ hl, ok, by omega, fun p b x H6 s6 g6 hx hj => ?_⟩
    obtain ⟨xo, ek⟩ := (rec_ok ok c9 (s := 13) (d := 6) (f := 2) (k := 1) (by decide) es.length es rfl (by omega) hes).xok ok (by omega) rfl
    exact q p b x _ H6 (sG.trans s6) g6 hx (by rw [ek]; exact hj) ⟨xo.sm, xo.wf, xo.lb, by have := xo.sz; omega, by have := xo.dp; omega, xo.fu, xo.kd⟩
end
end Fw
/-! Fw26: the law's defs: _law_sized, _law_many, _law_stay, _law_refused, _law_size. -/
namespace Fw
open PySem PySem.Spec PyProof.Rows L2
abbrev s_sized : Stmt := top 60
abbrev s_many : Stmt := top 61
abbrev s_stay : Stmt := top 62
abbrev s_refused : Stmt := top 63
abbrev s_size : Stmt := top 64
theorem sc_sized : FnScope ["_law_told", "_law_at", "_law_kept", "_law_forced", "_law_held", "_law_behind", "_law_row", "_law_last"] ["_law_told", "_law_at", "_law_kept", "_law_forced"] (defScope s_sized) := ⟨rfl, rfl, rfl, by decide +kernel, rfl, by decide +kernel, by decide +kernel⟩
theorem sc_many : FnScope ["_law_told", "_law_kept", "_law_size_here"] ["_law_told", "_law_kept"] (defScope s_many) := ⟨rfl, rfl, rfl, by decide +kernel, rfl, by decide +kernel, by decide +kernel⟩
theorem sc_stay : FnScope ["_law_told", "_law_many_here", "_law_stay_here", "_law_at", "_law_fewer", "_law_spot"] ["_law_told", "_law_many_here"] (defScope s_stay) := ⟨rfl, rfl, rfl, by decide +kernel, rfl, by decide +kernel, by decide +kernel⟩
theorem sc_refused : FnScope ["_law_program", "_law_refused_here"] ["_law_program"] (defScope s_refused) := ⟨rfl, rfl, rfl, by decide +kernel, rfl, by decide +kernel, by decide +kernel⟩
theorem sc_size : FnScope ["_law_told", "_law_part"] ["_law_told"] (defScope s_size) := ⟨rfl, rfl, rfl, by decide +kernel, rfl, by decide +kernel, by decide +kernel⟩
abbrev selC (ch : List Nat) : Nat → Bool := fun k => decide (k ∈ ch)
theorem inV_nat (k : Nat) : ∀ ch : List Nat, inV (.int (k : Int)) (inat ch) = decide (k ∈ ch)
  | [] => rfl
  | x :: r => by
    have ih := inV_nat k r
    show (eqV (.int (x : Int)) (.int (k : Int)) || inV (.int (k : Int)) (inat r)) = _
    rw [ih]
    have e : eqV (.int (x : Int)) (.int (k : Int)) = decide (x = k) := by
      show ((x : Int) == (k : Int)) = _
      by_cases h : x = k
      · subst h; simp
      · rw [decide_eq_false h]
        rw [beq_eq_false_iff_ne]
        intro z
        exact h (by omega)
    rw [e]
    by_cases h : x = k
    · subst h; simp
    · have : ¬ k = x := fun z => h z.symm
      simp [h, this]
theorem flat_inat (ch : List Nat) : (inat ch).all flatV = true := by
  rw [List.all_eq_true]
  intro x hx
  obtain ⟨z, _, rfl⟩ := List.mem_map.mp hx
  rfl
def sp_sized (K : PySem.W.Frag) (n : Nat) : Sp := fun vs H Q _ => ∃ (v : V) (p : Nat) (Lk : Addr) (fo : Bool) (e : Ex) (ch : List Nat), vs = [v, .int (p : Int), .ref Lk, .bl fo] ∧ IsX K H v e ∧ Sm nm0 0 e ∧ e.dp < n ∧ H Lk = some (.lst (inat ch)) ∧
  ∀ q H', Same H H' → H' q = some (.tup [.int (sized (selC ch) e p fo : Nat), .int ((p + sz e : Nat) : Int)]) → Q (.ref q) H'
section
variable {P : Program} {wd : World} {K : PySem.W.Frag} {mg : Str → Option Value} {base : Heap} {C CN CW : Addr}
theorem no_sized {n : Nat} (D : Dfn K mg "_law_sized" s_sized ["_law_told", "_law_at", "_law_kept", "_law_forced"]) (T : Txt K mg) (c_sized : Cal P wd K mg base CX0 n "_law_sized" ["_law_told", "_law_at", "_law_kept", "_law_forced"] (sp_sized K n)) :
    Cal P wd K mg base CX0 (n + 1) "_law_sized" ["_law_told", "_law_at", "_law_kept", "_law_forced"] (sp_sized K (n + 1)) := by
  have S := sc_sized
  refine cal_of D S (fun vs H Q E h => ?_) (fun f cdv A outer s0 H vs Q E hr h => ?_)
  · obtain ⟨v, p, Lk, fo, e, ch, rfl, _⟩ := h
    rfl
  obtain ⟨v, p, Lk, fo, e, ch, rfl, hx, sm, hd, hk, q⟩ := h
  refine ⟨_, (pss_cons (ps_if (pt_cmpR op_eq (pe_ix ix_tup (pv 0) pe_int (fun _ _ => rfl)) pe_str (nomark _))
      (pss_one (ps_ret (pe_tup (pa_cons pe_int (pa_cons (pe_op op_add (pv 1) pe_int) pa_nil)))))
      pss_nil)
    (pss_cons (ps_if (pt_cmpR op_eq (pe_ix ix_tup (pv 0) pe_int (fun _ _ => rfl)) pe_str (nomark _))
      (pss_one (ps_ret (pe_tup (pa_cons (pe_op op_add pe_int (pe_callTy call_int1 rfl T.int (by decide +kernel) (pa_cons (pe_or (pv 3) (pe_one (pe_cmpR op_in_seq (pv 1) (pv 2) (by rfl)))) pa_nil))) (pa_cons (pe_op op_add (pv 1) pe_int) pa_nil)))))
      pss_nil)
    (pss_cons (ps_asg (pe_cal c_sized hr pass0 (pa_cons (pe_ix ix_tup (pv 0) pe_int (fun _ _ => rfl)) (pa_cons (pe_op op_add (pv 1) pe_int) (pa_cons (pv 2) (pa_cons pe_bl pa_nil))))) (pg_tup rfl (pgs_cons (pg_name (i := 4) S.nd rfl (Or.inl rfl)) (pgs_cons (pg_name (i := 5) S.nd rfl (Or.inl rfl)) pgs_nil))))
    (pss_cons (ps_asg (pe_cal c_sized hr pass0 (pa_cons (pe_ix ix_tup (pv 0) pe_int (fun _ _ => rfl)) (pa_cons (pv 5) (pa_cons (pv 2) (pa_cons pe_bl pa_nil))))) (pg_tup rfl (pgs_cons (pg_name (i := 6) S.nd rfl (Or.inl rfl)) (pgs_cons (pg_name (i := 7) S.nd rfl (Or.inl rfl)) pgs_nil))))
    (pss_cons (ps_if (pt_cmpR op_in_seq (pv 1) (pv 2) (by rfl))
      (pss_one (ps_ret (pe_tup (pa_cons (pe_op op_add (pe_op op_add (pv 6) pe_int) (pv 4)) (pa_cons (pv 7) pa_nil)))))
      pss_nil)
    (pss_one (ps_ret (pe_tup (pa_cons (pe_op op_add pe_int (pe_callTy call_int1 rfl T.int (by decide +kernel) (pa_cons (pv 3) pa_nil))) (pa_cons (pv 7) pa_nil)))))))))), ?_⟩
  have inr : ∀ {G : Hp} (k : Nat), G Lk = some (.lst (inat ch)) → ∀ (R : VK), R (.bl (decide (k ∈ ch))) G → rIn K false (.int (k : Int)) (.ref Lk) G R := fun {G} k hG R h => by
    refine ⟨Lk, _, rfl, .inl (.of hG), rfl, flat_inat ch, ?_⟩
    have e : (if false = true then !inV (V.int (k : Int)) (inat ch) else inV (V.int (k : Int)) (inat ch)) = decide (k ∈ ch) := by
      rw [if_neg (by decide)]
      exact inV_nat k ch
    rw [e]
    exact h
  cases hx with
  | @num a i e =>
    refine ⟨_, rfl, a, _, _, _, rfl, rfl, e, atI_nat rfl, rfl, _, rfl, iteT ?_⟩
    refine ⟨_, rfl, _, _, rfl, rfl, (by show 2 ≤ sizeLine; decide), newO (Q := fun p H' => Q (.ref p) H') fun q1 H1 n1 s1 g1 => ?_⟩
    exact q q1 H1 s1 g1
  | @name a x e => cases sm
  | @empty a e =>
    refine ⟨_, rfl, a, _, _, _, rfl, rfl, e, atI_nat rfl, rfl, _, rfl, iteF ?_⟩
    refine ⟨_, rfl, a, _, _, _, rfl, rfl, e, atI_nat rfl, rfl, _, rfl, iteT ?_⟩
    refine ⟨_, rfl, fo, rfl, ?_⟩
    cases fo with
    | true =>
      refine iteT (.inr ⟨true, rfl, _, _, rfl, rfl, _, rfl, _, _, rfl, rfl, (by show 2 ≤ sizeLine; decide), newO (Q := fun p H' => Q (.ref p) H') fun q1 H1 n1 s1 g1 => ?_⟩)
      exact q q1 H1 s1 g1
    | false =>
      refine iteF ⟨_, rfl, _, rfl, inr p hk _ (.inr ⟨_, rfl, _, _, rfl, rfl, _, rfl, _, _, rfl, rfl, (by show 2 ≤ sizeLine; decide), newO (Q := fun p H' => Q (.ref p) H') fun q1 H1 n1 s1 g1 => ?_⟩)⟩
      refine q q1 H1 s1 ?_
      have e1 : sized (selC ch) .empty p false = if decide (p ∈ ch) = true then 2 else 1 := by
        show (if (false || selC ch p) = true then 2 else 1) = _
        rfl
      rw [e1]
      by_cases hs : p ∈ ch
      · rw [decide_eq_true hs] at g1 ⊢
        exact g1
      · rw [decide_eq_false hs] at g1 ⊢
        exact g1
  | @wth a l x y e r hp h1 h2 =>
    have hd' : max e.dp r.dp + 1 < n + 1 := hd
    refine ⟨_, rfl, a, _, _, _, rfl, rfl, hp, atI_nat rfl, rfl, _, rfl, iteF ?_⟩
    refine ⟨_, rfl, a, _, _, _, rfl, rfl, hp, atI_nat rfl, rfl, _, rfl, iteF ?_⟩
    refine ⟨_, rfl, a, _, _, _, rfl, rfl, hp, atI_nat rfl, _, rfl, _, _, rfl, rfl, _, rfl, x, p + 1, Lk, false, e, ch, rfl, h1, sm.1, by omega, hk, fun q1 H1 s1 g1 => ?_⟩
    refine ⟨q1, _, rfl, .of g1, rfl, _, _, rfl, _, _, rfl, rfl, ?_⟩
    refine ⟨_, rfl, a, _, _, _, rfl, rfl, sqT_keep (same_keep s1) hp, atI_nat rfl, _, rfl, _, rfl, y, p + 1 + sz e, Lk, true, r, ch, rfl, h2.keep (same_keep s1), sm.2.1, by omega, s1 _ _ hk, fun q2 H2 s2 g2 => ?_⟩
    refine ⟨q2, _, rfl, .of g2, rfl, _, _, rfl, _, _, rfl, rfl, ?_⟩
    have s12 := s1.trans s2
    refine ⟨_, rfl, _, rfl, inr p (s12 _ _ hk) _ ⟨_, rfl, ?_⟩⟩
    have e2 : p + 1 + sz e + sz r = p + sz (.wth l e r) := by
      show _ = p + (sz e + sz r + 1)
      omega
    by_cases hs : p ∈ ch
    · have e1 : sized (selC ch) (.wth l e r) p fo = sized (selC ch) r (p + 1 + sz e) true + 1 + sized (selC ch) e (p + 1) false := by
        show (if selC ch p = true then _ else _) = _
        rw [if_pos (decide_eq_true hs)]
      rw [decide_eq_true hs]
      refine iteT ⟨_, rfl, _, _, rfl, rfl, _, rfl, _, _, rfl, rfl, _, rfl, (by show 2 ≤ sizeLine; decide), newO (Q := fun p H' => Q (.ref p) H') fun q3 H3 n3 s3 g3 => ?_⟩
      refine q q3 H3 (s12.trans s3) ?_
      rw [e1, ← e2]
      exact g3
    · have e1 : sized (selC ch) (.wth l e r) p fo = if fo = true then 2 else 1 := by
        show (if selC ch p = true then _ else if fo = true then 2 else 1) = _
        rw [if_neg (by rw [show selC ch p = false from decide_eq_false hs]; decide)]
      rw [decide_eq_false hs]
      refine iteF ⟨_, rfl, .inr ⟨fo, rfl, _, _, rfl, rfl, _, rfl, (by show 2 ≤ sizeLine; decide), newO (Q := fun p H' => Q (.ref p) H') fun q3 H3 n3 s3 g3 => ?_⟩⟩
      refine q q3 H3 (s12.trans s3) ?_
      rw [e1, ← e2]
      cases fo <;> exact g3
  | @lam a x y b e _ => exact sm.elim
  | @app a x y f b e _ _ => exact sm.elim
theorem ok_sized (D : Dfn K mg "_law_sized" s_sized ["_law_told", "_law_at", "_law_kept", "_law_forced"]) (T : Txt K mg) : ∀ n, Cal P wd K mg base CX0 n "_law_sized" ["_law_told", "_law_at", "_law_kept", "_law_forced"] (sp_sized K n)
  | 0 => cal_none D fun vs H Q E ⟨_, _, _, _, _, _, _, _, _, h, _⟩ => absurd h (Nat.not_lt_zero _)
  | n + 1 => no_sized D T (ok_sized D T n)
def sp_many (K : PySem.W.Frag) : Sp := fun vs H Q _ => ∃ (v : V) (Lk : Addr) (e : Ex) (ch : List Nat), vs = [v, .ref Lk] ∧ IsX K H v e ∧ Sm nm0 0 e ∧ e.dp < 14 ∧ H Lk = some (.lst (inat ch)) ∧ ∀ H', Same H H' → Q (.int ((manyS (selC ch) e : Nat) : Int)) H'
theorem ok_many (D : Dfn K mg "_law_many" s_many ["_law_told", "_law_kept"]) (c_sized : Cal P wd K mg base CX0 14 "_law_sized" ["_law_told", "_law_at", "_law_kept", "_law_forced"] (sp_sized K 14)) : Cal P wd K mg base CX0 15 "_law_many" ["_law_told", "_law_kept"] (sp_many K) := by
  have S := sc_many
  refine cal_of D S (fun vs H Q E h => ?_) (fun f cdv A outer s0 H vs Q E hr h => ?_)
  · obtain ⟨v, Lk, e, ch, rfl, _⟩ := h
    rfl
  obtain ⟨v, Lk, e, ch, rfl, hx, sm, hd, hk, q⟩ := h
  refine ⟨_, (pss_cons (ps_set (i := 2) S.nd rfl (Or.inl rfl) (pe_ix ix_tup (pe_cal c_sized hr pass0 (pa_cons (pv 0) (pa_cons pe_int (pa_cons (pv 1) (pa_cons pe_bl pa_nil))))) pe_int (fun _ _ => rfl)))
    (pss_cons (ps_if (PW.pt (pw_and (pt_cmpR op_in_seq pe_int (pv 1) (by rfl)) (pw_and1 (pt_cmpR op_in_seq pe_int (pv 1) (by rfl)))))
      (pss_one (ps_ret (pe_op op_add (pe_op op_mul pe_int (pv 2)) pe_int)))
      pss_nil)
    (pss_one (ps_ret pe_int)))), ?_⟩
  have inr : ∀ {G : Hp} (k : Nat), G Lk = some (.lst (inat ch)) → ∀ (R : VK), R (.bl (decide (k ∈ ch))) G → rIn K false (.int (k : Int)) (.ref Lk) G R := fun {G} k hG R h => by
    refine ⟨Lk, _, rfl, .inl (.of hG), rfl, flat_inat ch, ?_⟩
    have e : (if false = true then !inV (V.int (k : Int)) (inat ch) else inV (V.int (k : Int)) (inat ch)) = decide (k ∈ ch) := by
      rw [if_neg (by decide)]
      exact inV_nat k ch
    rw [e]
    exact h
  have hsz := sized_le (selC ch) e 2 false sm
  have dsz : ∀ e : Ex, True := fun _ => trivial
  refine ⟨_, rfl, _, rfl, v, 2, Lk, false, e, ch, rfl, hx, sm, hd, hk, fun q1 H1 s1 g1 => ?_⟩
  refine ⟨q1, _, _, _, rfl, rfl, .of g1, atI_nat rfl, ?_⟩
  have ret0 : ¬ (0 ∈ ch ∧ 1 ∈ ch) → manyS (selC ch) e = 0 := fun h => if_neg fun z => h ⟨of_decide_eq_true z.1, of_decide_eq_true z.2⟩
  refine ⟨_, rfl, inr 0 (s1 _ _ hk) _ ⟨_, rfl, ?_⟩⟩
  by_cases h0 : 0 ∈ ch
  · rw [decide_eq_true h0]
    refine iteT ⟨_, rfl, inr 1 (s1 _ _ hk) _ ⟨_, rfl, ?_⟩⟩
    by_cases h1 : 1 ∈ ch
    · rw [decide_eq_true h1]
      refine iteT ⟨_, rfl, _, _, rfl, rfl, .inl ⟨by decide, by decide⟩, _, _, rfl, rfl, ?_⟩
      have e1 : manyS (selC ch) e = 3 * sized (selC ch) e 2 false + 5 := if_pos ⟨decide_eq_true h0, decide_eq_true h1⟩
      have := q H1 s1
      rw [e1] at this
      exact this
    · rw [decide_eq_false h1]
      refine iteF ?_
      have := q H1 s1
      rw [ret0 fun z => h1 z.2] at this
      exact this
  · rw [decide_eq_false h0]
    refine iteF (iteF ?_)
    have := q H1 s1
    rw [ret0 fun z => h0 z.1] at this
    exact this
def sp_stay (K : PySem.W.Frag) : Sp := fun vs H Q _ => ∃ (v : V) (n : Nat) (e : Ex), vs = [v, .int (n : Int)] ∧ IsX K H v e ∧ Sm nm0 0 e ∧ e.dp < 14 ∧ n ≤ 10000 ∧ ∀ p H', Same H H' → H' p = some (.lst (inat (lcF (okM e) n))) → Q (.ref p) H'
theorem ok_stay (D : Dfn K mg "_law_stay" s_stay ["_law_told", "_law_many_here"]) (T : Txt K mg) (c_many : Cal P wd K mg base CX0 15 "_law_many" ["_law_told", "_law_kept"] (sp_many K)) : Cal P wd K mg base CX0 16 "_law_stay" ["_law_told", "_law_many_here"] (sp_stay K) := by
  have S := sc_stay
  refine cal_of D S (fun vs H Q E h => ?_) (fun f cdv A outer s0 H vs Q E hr h => ?_)
  · obtain ⟨v, n, e, rfl, _⟩ := h
    rfl
  obtain ⟨v, n, e, rfl, hx, sm, hd, hn, q⟩ := h
  refine ⟨_, (pss_cons (ps_set (i := 2) S.nd rfl (Or.inl rfl) (pe_listRg rfl rfl T.list (prg_1 rfl T.range (pv 1))))
    (pss_cons (ps_for PassesOwn.never rfl (pi_list (pe_revL (pe_listRg rfl rfl T.list (prg_1 rfl T.range (pv 1))))) (pg_name (i := 3) S.nd rfl (Or.inr rfl))
      (pss_cons (ps_setLc (i := 4) (own := [("_law_spot", 5)]) rfl S.nd rfl rfl (sw_true rfl rfl rfl (by decide +kernel)) (pi_list (pv 2)) (blkOk_by (own := [("_law_spot", 5)]) (N := ["_law_told", "_law_many_here", "_law_stay_here", "_law_at", "_law_fewer", "_law_spot"]) (sc := defScope s_stay) (by decide +kernel)) (fun _ _ _ _ _ => (pg_name (i := 5) S.nd rfl (Or.inl rfl))) (fun _ _ _ _ _ => (pts_one (pt_cmpR op_ne (pv 5) (pv 3) (nomark _)))) (fun _ _ _ _ _ => (pv 5)))
      (pss_one (ps_if (pt_cmpR op_gt (pe_cal c_many hr pass0 (pa_cons (pv 0) (pa_cons (pv 4) pa_nil))) pe_int (nomark _))
        (pss_one (ps_set (i := 2) S.nd rfl (Or.inl rfl) (pv 4)))
        pss_nil))))
    (pss_one (ps_ret (pv 2))))), ?_⟩
  have rg : RgOk 0 (n : Int) := RgOk.of_le (by omega) (by omega) (by omega) (by omega)
  refine ⟨_, rfl, _, rfl, rg, fun L0 n0 => ?_⟩
  refine newG n0 fun H1 s1 h1 => ?_
  rw [rg_v] at h1
  refine ⟨_, rfl, _, rfl, rg, fun L1 n1 => ?_⟩
  refine newG n1 fun H2 s2 h2 => ?_
  rw [rg_v] at h2
  refine ⟨L1, _, rfl, .of h2, fun L2 n2 => ?_⟩
  refine newG n2 fun H3 s3 h3 => ?_
  have erev : (inat (List.range n)).reverse = inat (List.range n).reverse := by
    unfold inat
    rw [List.map_reverse]
  rw [erev] at h3
  have s03 := (s1.trans s2).trans s3
  have hlen : (inat (List.range n).reverse).length = n := by simp [inat]
  refine ⟨L2, rfl, ⟨_, .of h3⟩, for_list (K := K) (a := L2) (xs := inat (List.range n).reverse) (fun i σ G => ∃ (Lx : Addr) (y z t : Option V) (stay : List Nat), σ = [some v, some (.int (n : Int)), some (.ref Lx), y, z, t] ∧ Same H3 G ∧ G Lx = some (.lst (inat stay)) ∧ stay.Sublist (List.range n) ∧ stay = ((List.range n).reverse.take i).foldl (lcStep (okM e)) (List.range n))
    ⟨L0, none, none, none, List.range n, rfl, .refl _, s3 _ _ (s2 _ _ h1), List.Sublist.refl _, rfl⟩ (fun i σ G _ ⟨_, _, _, _, _, _, s, _⟩ => .of (s _ _ h3)) ?_ ?_⟩
  · rintro i x σ G hi ⟨Lx, y1, z1, t1, stay, rfl, sG, gx, sub, es⟩
    rw [inat, List.getElem?_map] at hi
    cases hk : (List.range n).reverse[i]? with
    | none => rw [hk] at hi; cases hi
    | some m =>
      rw [hk] at hi
      cases hi
      refine ⟨_, rfl, Lx, rfl, ⟨_, .of gx⟩, fun D nD => ?_⟩
      refine lc_list (K := K) (a := Lx) (xs := inat stay) (fun j G' => Same G G' ∧ G' D = some (.lst (inat ((stay.take j).filter fun j => decide (j ≠ m))))) ⟨keep_new (S := No) nD |>.toSame, upd_same⟩ (fun j G' _ ⟨s, _⟩ => .of (s _ _ gx)) ?_ ?_
      · rintro j x G' hj ⟨s', gD⟩
        rw [inat, List.getElem?_map] at hj
        cases hk2 : stay[j]? with
        | none => rw [hk2] at hj; cases hj
        | some k =>
          rw [hk2] at hj
          cases hj
          refine ⟨rfl, ?_⟩
          have tks : stay.take (j + 1) = stay.take j ++ [k] := take_snoc hk2
          refine ⟨_, rfl, _, rfl, rfl, _, rfl, ?_⟩
          by_cases hkm : k = m
          · have e1 : decide (V.int (k : Int) = V.int (m : Int)) = true := decide_eq_true (by rw [hkm])
            rw [e1]
            refine iteF ⟨s', ?_⟩
            rw [tks, List.filter_append]
            simpa [hkm] using gD
          · have e1 : decide (V.int (k : Int) = V.int (m : Int)) = false := decide_eq_false fun z => hkm (by have := V.int.inj z; omega)
            rw [e1]
            have hsl := sub.length_le
            rw [List.length_range] at hsl
            have fl : ((stay.take j).filter fun j => decide (j ≠ m)).length ≤ stay.length := Nat.le_trans (List.length_filter_le _ _) (by rw [List.length_take]; omega)
            refine iteT ⟨_, rfl, _, gD, sz_lt (by rw [inat, List.length_map]; omega), ?_⟩
            refine mutG gD rfl fun G2 k2 g2 => ⟨same_over s' k2 nD, ?_⟩
            rw [tks, List.filter_append]
            have f1 : [k].filter (fun j => decide (j ≠ m)) = [k] := by simp [hkm]
            rw [f1, g2]
            simp [inat]
      · rintro G' ⟨s', gD⟩
        have hln : (inat stay).length = stay.length := by simp [inat]
        rw [hln, List.take_length] at gD
        have sub2 : (stay.filter fun j => decide (j ≠ m)).Sublist (List.range n) := (List.filter_sublist).trans sub
        have fold : ∀ y, y = lcStep (okM e) stay m → y = ((List.range n).reverse.take (i + 1)).foldl (lcStep (okM e)) (List.range n) := fun y he => by
          rw [take_snoc hk, List.foldl_append, he, ← es]
          rfl
        have sG' := s03.trans (sG.trans s')
        refine ⟨_, rfl, _, rfl, v, D, e, _, rfl, hx.keep (same_keep sG'), sm, hd, gD, fun H6 s6 => ?_⟩
        refine ⟨_, _, rfl, rfl, _, rfl, ?_⟩
        by_cases hok : manyS (selC (stay.filter fun j => decide (j ≠ m))) e ≤ 200
        · have e1 : decide ((200 : Int) < ((manyS (selC (stay.filter fun j => decide (j ≠ m))) e : Nat) : Int)) = false := decide_eq_false (by omega)
          rw [e1]
          refine iteF ⟨Lx, _, _, _, stay, rfl, sG.trans (s'.trans s6), s6 _ _ (s' _ _ gx), sub, fold _ ?_⟩
          unfold lcStep
          rw [if_pos (show okM e _ = true from decide_eq_true hok)]
        · have e1 : decide ((200 : Int) < ((manyS (selC (stay.filter fun j => decide (j ≠ m))) e : Nat) : Int)) = true := decide_eq_true (by omega)
          rw [e1]
          refine iteT ⟨_, rfl, D, _, _, _, _, rfl, sG.trans (s'.trans s6), s6 _ _ gD, sub2, fold _ ?_⟩
          unfold lcStep
          rw [if_neg (show ¬ okM e _ = true from by rw [show okM e _ = false from decide_eq_false hok]; decide)]
  · rintro σ G ⟨Lx, y1, z1, t1, stay, rfl, sG, gx, sub, es⟩
    refine ⟨_, rfl, q Lx G (s03.trans sG) ?_⟩
    rw [hlen] at es
    have : (List.range n).reverse.take n = (List.range n).reverse := List.take_of_length_le (by simp)
    rw [this] at es
    rw [gx, es]
    rfl
def sp_refused (K : PySem.W.Frag) : Sp := fun vs H Q _ => ∃ (L : Addr) (n1 : Str) (e1 e2 : Ex) (d1 d2 : Kd) (m1 : Option Nat) (okc : List Nat → Bool), PrgAt K H L n1 e1 e2 ∧ PF n1 e1 e2 d1 m1 d2 okc ∧ vs = [.ref L] ∧ ∀ H', Same H H' → Q (.bl (!okc (List.range (spots nm0 e2 0).length))) H'
theorem ok_refused (D : Dfn K mg "_law_refused" s_refused ["_law_program"]) (N : TN K mg CN) (c_schemes : Cal P wd K mg base (L2.CX P wd) 55 "schemes" ["program"] (sp_schemes K CN)) : Cal P wd K mg base CX0 56 "_law_refused" ["_law_program"] (sp_refused K) := by
  have S := sc_refused
  refine cal_of D S (fun vs H Q E h => ?_) (fun f cdv A outer s0 H vs Q E hr h => ?_)
  · obtain ⟨L, n1, e1, e2, d1, d2, m1, okc, _, _, rfl, _⟩ := h
    rfl
  obtain ⟨L, n1, e1, e2, d1, d2, m1, okc, prg, pf, rfl, q⟩ := h
  refine ⟨_, (pss_cons (ps_set (i := 1) S.nd rfl (Or.inl rfl) pe_bl)
    (pss_cons (ps_try_only (tb := fun W => tDrop (tCallSD (sp_schemes K CN) [] (fun σ cls d H => W cls d σ H) (tCons (tVar 0) tNil))) (ts := fun _ _ _ => tAsg (tC (.bl true)) (gName 1)) (Wout := fun _ _ _ _ => False) rfl rfl ⟨rfl, by decide, Or.inl N.gP⟩ takes0
      (fun W pn xe tk _ => pss_one (ps_expr (pe_calS c_schemes hr tk (by exact (pa_cons (pv 0) pa_nil))))) (fun _ _ _ _ _ _ _ => pss_one (ps_set (i := 1) S.nd rfl (Or.inl rfl) pe_bl)))
    (pss_one (ps_ret (pv 1))))), ?_⟩
  refine ⟨_, rfl, L, n1, e1, e2, d1, d2, m1, okc, prg, pf, rfl, fun hok p sc sc2 H' s' _ _ => ?_, fun hok H' s' => ?_⟩
  · refine ⟨_, rfl, ?_⟩
    have := q H' s'
    rw [hok] at this
    exact this
  · refine ⟨true, N.eP, fun _ a0 _ => ⟨_, rfl, ?_⟩, fun z => by cases z⟩
    have := q H' s'
    rw [hok] at this
    exact this
end
end Fw
/-! Fw27: the law's defs: _law_size. -/
namespace Fw
open PySem PySem.Spec PyProof.Rows L2
def sp_size (K : PySem.W.Frag) (n : Nat) : Sp := fun vs H Q _ => ∃ (v : V) (e : Ex), vs = [v] ∧ IsX K H v e ∧ Sm nm0 0 e ∧ e.dp < n ∧ ∀ H', Same H H' → Q (.int ((sz e : Nat) : Int)) H'
theorem sum_nat : ∀ ns : List Nat, (ns.map fun (k : Nat) => (k : Int)).sum = ((ns.sum : Nat) : Int)
  | [] => rfl
  | n :: r => by
    rw [List.map_cons, List.sum_cons, List.sum_cons, sum_nat r]
    omega
section
variable {P : Program} {wd : World} {K : PySem.W.Frag} {mg : Str → Option Value} {base : Heap} {C CN CW : Addr}
theorem no_size {n : Nat} (D : Dfn K mg "_law_size" s_size ["_law_told"]) (T : Txt K mg) (c_size : Cal P wd K mg base CX0 n "_law_size" ["_law_told"] (sp_size K n)) : Cal P wd K mg base CX0 (n + 1) "_law_size" ["_law_told"] (sp_size K (n + 1)) := by
  have S := sc_size
  refine cal_of D S (fun vs H Q E h => ?_) (fun f cdv A outer s0 H vs Q E hr h => ?_)
  · obtain ⟨v, e, rfl, _⟩ := h
    rfl
  obtain ⟨v, e, rfl, hx, sm, hd, q⟩ := h
  refine ⟨_, (pss_one (ps_ret (pe_op op_add pe_int (pe_callB (cr_sum rfl) rfl T.sum (by decide +kernel) (pa_cons (pe_lc (own := [("_law_part", 1)]) rfl S.nd (pi_tup (pe_slice sl_tup (pv 0) (po_some pe_int) po_none)) (blkOk_by (own := [("_law_part", 1)]) (N := ["_law_told", "_law_part"]) (sc := defScope s_size) (by decide +kernel)) (fun _ _ _ _ _ => (pg_name (i := 1) S.nd rfl (Or.inl rfl))) (fun _ _ _ _ _ => (pts_one (pt_val (pe_callB (call_isiK2 (K := K) rfl) rfl T.isinstance (by decide +kernel) (pa_cons (pv 1) (pa_cons (pe_bltn (v := V.ty "tuple") rfl T.tuple (by decide +kernel) rfl) pa_nil)))))) (fun _ _ _ _ _ => (pe_cal c_size hr pass0 (pa_cons (pv 1) pa_nil)))) pa_nil))))), ?_⟩
  obtain ⟨p, w, rest, subs, hv', hsq, ips, l3, e1, hsub⟩ : ∃ (p : Addr) (w : Str) (rest : List V) (subs : List (Option Ex)), v = .ref p ∧ SqT K H p (.str w :: rest) ∧ IsPs K H rest subs ∧ subs.length ≤ 3 ∧ sz e = 1 + ((subs.filterMap id).map sz).sum ∧ ∀ e', some e' ∈ subs → Sm nm0 0 e' ∧ e'.dp < n := by
    cases hx with
    | @num p i hp => exact ⟨p, _, _, [none], rfl, hp, .int .nil, by show 1 ≤ 3; decide, rfl, fun e' h => by simp at h⟩
    | @name p x hp => cases sm
    | @empty p hp => exact ⟨p, _, _, [], rfl, hp, .nil, by show 0 ≤ 3; decide, rfl, fun e' h => by cases h⟩
    | @wth p l x y e r hp h1 h2 =>
      have hd' : max e.dp r.dp + 1 < n + 1 := hd
      refine ⟨p, _, _, [none, some e, some r], rfl, hp, .str (.ex h1 (.ex h2 .nil)), by show 3 ≤ 3; decide, ?_, fun e' h => ?_⟩
      · show sz e + sz r + 1 = 1 + (sz e + (sz r + 0))
        omega
      · simp at h
        rcases h with rfl | rfl
        · exact ⟨sm.1, by omega⟩
        · exact ⟨sm.2.1, by omega⟩
    | @lam p x y b hp _ => exact sm.elim
    | @app p x y f a hp _ _ => exact sm.elim
  subst hv'
  have sx : HT.sIx (rest.length + 1) 0 (some 1) = 1 := by
    rw [show (some (1 : Int)) = some ((1 : Nat) : Int) from rfl, HT.sIx_nat]
    omega
  refine ⟨_, rfl, 1, rfl, p, V.str w :: rest, rfl, hsq, ?_, fun q0 nq0 => ?_⟩
  · rintro ⟨z, _⟩
    have z : HT.sIx (rest.length + 1) 0 (some 1) = 0 := z
    omega
  have cut : cutV (V.str w :: rest) (some 1) none = rest := by
    unfold cutV
    rw [HT.sIx_none, List.length_cons, sx]
    simp
  rw [cut]
  refine newG nq0 fun H2 s2 g2 => ?_
  refine ⟨q0, rfl, ⟨_, .of g2⟩, fun D nD => ?_⟩
  have lps := ips.length
  refine lc_tup (K := K) (a := q0) (xs := rest) (fun i G => Same H2 G ∧ G D = some (.lst (inat (((subs.take i).filterMap id).map sz)))) ⟨keep_new (S := No) nD |>.toSame, upd_same⟩ (fun i G _ ⟨s, _⟩ => .of (s _ _ g2)) ?_ ?_
  · rintro i x G hi ⟨sG, gD⟩
    have hil := (List.getElem?_eq_some_iff.mp hi).1
    rcases ips.get hi with ⟨hs, hx'⟩ | ⟨e', hs, hx'⟩
    · have tk : (subs.take (i + 1)).filterMap id = (subs.take i).filterMap id := by
        rw [take_snoc hs, List.filterMap_append]
        simp
      refine ⟨rfl, _, rfl, x, .ty "tuple", ?_⟩
      rcases hx' with ⟨z, rfl⟩ | ⟨z, rfl⟩
      · refine ⟨.type "int", .type "tuple", false, rfl, .ty _, .base (.int _), kit_ty (by decide +kernel), false, rfl, iteF ?_⟩
        exact ⟨sG, by rw [tk]; exact gD⟩
      · refine ⟨.type "str", .type "tuple", false, rfl, .ty _, .base (.str _), kit_ty (by decide +kernel), false, rfl, iteF ?_⟩
        exact ⟨sG, by rw [tk]; exact gD⟩
    · have tk : (subs.take (i + 1)).filterMap id = (subs.take i).filterMap id ++ [e'] := by
        rw [take_snoc hs, List.filterMap_append]
        simp
      obtain ⟨sm', dp'⟩ := hsub e' (List.mem_of_getElem? hs)
      have hxG := hx'.keep (same_keep (s2.trans sG))
      refine ⟨rfl, _, rfl, x, .ty "tuple", .type "tuple", .type "tuple", true, rfl, .ty _, hxG.tup, kit_ty (by decide +kernel), true, rfl, iteT ?_⟩
      refine ⟨_, rfl, x, e', rfl, hxG, sm', dp', fun H4 s4 => ?_⟩
      have gD4 := s4 _ _ gD
      have ll : (inat (((subs.take i).filterMap id).map sz)).length ≤ 3 := by
        have h1 : ((subs.take i).filterMap id).length ≤ (subs.take i).length := List.length_filterMap_le _ _
        rw [List.length_take] at h1
        simp only [inat, List.length_map]
        omega
      refine ⟨_, gD4, sz_lt (by omega), ?_⟩
      refine mutG gD4 rfl fun H5 k5 g5 => ⟨same_over (sG.trans s4) k5 nD, ?_⟩
      rw [g5, tk, List.map_append]
      simp [inat]
  · rintro G ⟨sG, gD⟩
    rw [lps, List.take_length] at gD
    refine ⟨D, (((subs.filterMap id).map sz).map fun (k : Nat) => (k : Int)), rfl, .of (by rw [gD]; simp [inat, List.map_map, Function.comp_def]), _, _, rfl, rfl, ?_⟩
    have := q G (s2.trans sG)
    rw [e1] at this
    rw [sum_nat]
    exact this
theorem ok_size (D : Dfn K mg "_law_size" s_size ["_law_told"]) (T : Txt K mg) : ∀ n, Cal P wd K mg base CX0 n "_law_size" ["_law_told"] (sp_size K n)
  | 0 => cal_none D fun vs H Q E ⟨_, _, _, _, _, h, _⟩ => absurd h (Nat.not_lt_zero _)
  | n + 1 => no_size D T (ok_size D T n)
end
end Fw
/-! Fw28: the law's defs: _law_right. -/
namespace Fw
open PySem PySem.Spec PyProof.Rows L2
/-! ### a kind as data can be compared -/
theorem lay_F {fs : List (Str × Kd)} (h : ∀ x ∈ fs, PyData.strOk x.1 = true ∧ PyData.canLay0 x.2.dat = true) : PyData.canLayAll0 (datF fs) = true := by
  induction fs with
  | nil => simp only [datF, PyData.canLayAll0]
  | cons x r ih =>
    obtain ⟨l, d⟩ := x
    obtain ⟨h1, h2⟩ := h (l, d) List.mem_cons_self
    have i := ih fun y hy => h y (List.mem_cons_of_mem _ hy)
    have h1 : PyData.strOk l = true := h1
    have h2 : PyData.canLay0 d.dat = true := h2
    simp only [datF, PyData.canLayAll0, PyData.canLay0, h1, h2, i, Bool.and_self]
theorem dep_F {k : Nat} {fs : List (Str × Kd)} (h : ∀ x ∈ fs, PyData.depth x.2.dat ≤ k) : PyData.depthAll (datF fs) ≤ k + 1 := by
  induction fs with
  | nil => simp only [datF, PyData.depthAll]; omega
  | cons x r ih =>
    obtain ⟨l, d⟩ := x
    have h1 := h (l, d) List.mem_cons_self
    have h1 : PyData.depth d.dat ≤ k := h1
    have i := ih fun y hy => h y (List.mem_cons_of_mem _ hy)
    simp only [datF, PyData.depthAll, PyData.depth]
    omega
theorem lay_E {U : List Str} : ∀ (e : Ex) (c : List Str), Sm nm0 0 e → LbOk U e c → (PyData.canLay0 (kdE 0 e).dat = true ∧ PyData.depth (kdE 0 e).dat ≤ 4 * fuel e + 1) ∧ ∀ x ∈ fldsE 0 e, PyData.strOk x.1 = true ∧ PyData.canLay0 x.2.dat = true ∧ PyData.depth x.2.dat + 4 ≤ 4 * fuel e + 1
  | .num _, _, _, _ => ⟨⟨by show PyData.canLay0 Kd.num.dat = true; decide +kernel, by show PyData.depth Kd.num.dat ≤ 4 * 1 + 1; decide +kernel⟩, fun x h => by cases h⟩
  | .name x, _, h, _ => by cases h
  | .empty, _, _, _ => ⟨⟨by show PyData.canLay0 (Kd.rc [] none).dat = true; decide +kernel, by show PyData.depth (Kd.rc [] none).dat ≤ 4 * 1 + 1; decide +kernel⟩, fun x h => by cases h⟩
  | .wth l e r, c, sm, lb => by
    obtain ⟨⟨a1, a2⟩, _⟩ := lay_E (U := U) e [] sm.1 lb.2.2.2.1
    obtain ⟨_, b⟩ := lay_E (U := U) r (l :: c) sm.2.1 lb.2.2.2.2
    have fe : fuel (.wth l e r) = max (fuel e + 1) (fuel r) := rfl
    have hf : ∀ x ∈ (l, kdE 0 e) :: fldsE 0 r, PyData.strOk x.1 = true ∧ PyData.canLay0 x.2.dat = true ∧ PyData.depth x.2.dat + 4 ≤ 4 * fuel (.wth l e r) + 1 := fun x hx => by
      rcases List.mem_cons.mp hx with rfl | hx
      · exact ⟨lb.2.2.1, a1, by show PyData.depth (kdE 0 e).dat + 4 ≤ _; omega⟩
      · obtain ⟨h1, h2, h3⟩ := b x hx
        exact ⟨h1, h2, by omega⟩
    have hs := fun x hx => hf x ((srt_perm ((l, kdE 0 e) :: fldsE 0 r)).subset hx)
    have c1 := lay_F (fs := srt ((l, kdE 0 e) :: fldsE 0 r)) fun x hx => ⟨(hs x hx).1, (hs x hx).2.1⟩
    have c2 := dep_F (k := 4 * fuel (.wth l e r) + 1 - 4) (fs := srt ((l, kdE 0 e) :: fldsE 0 r)) fun x hx => by have := (hs x hx).2.2; omega
    have fp := fuel_pos e
    refine ⟨⟨?_, ?_⟩, hf⟩
    · show PyData.canLay0 (Kd.rc (srt ((l, kdE 0 e) :: fldsE 0 r)) none).dat = true
      simp only [Kd.dat, tD, PyData.canLay0, PyData.canLayAll0, c1]
      decide +kernel
    · show PyData.depth (Kd.rc (srt ((l, kdE 0 e) :: fldsE 0 r)) none).dat ≤ _
      simp only [Kd.dat, tD, PyData.depth, PyData.depthAll]
      omega
  | .lam _ _, _, h, _ => h.elim
  | .app _ _, _, h, _ => h.elim
theorem shaped_two {U ls : List Str} {l0 l1 : Str} {E : Ex} (s0 : PyData.strOk l0 = true) (s1 : PyData.strOk l1 = true) (sm : Sm nm0 0 E) (lb : LbOk ls E []) (fu : fuel E ≤ 3) : SeqAt.shaped (.tuple [(rcD l0 l1 (kdE 0 E)).dat, .list []]) = true ∧ PyData.canLay0 (.tuple [(rcD l0 l1 (kdE 0 E)).dat, .list []]) = true := by
  obtain ⟨⟨a1, a2⟩, _⟩ := lay_E E [] sm lb
  obtain ⟨b1, b2⟩ := ok_lo s0 s1
  have c1 : PyData.canLay0 (.tuple [(rcD l0 l1 (kdE 0 E)).dat, .list []]) = true := by
    unfold rcD
    simp only [Kd.dat, datF, tD, PyData.canLay0, PyData.canLayAll0, a1, b1, b2]
    decide +kernel
  refine ⟨?_, c1⟩
  have c2 : PyData.depth (.tuple [(rcD l0 l1 (kdE 0 E)).dat, .list []]) ≤ 64 := by
    unfold rcD
    simp only [Kd.dat, datF, tD, PyData.depth, PyData.depthAll]
    omega
  unfold SeqAt.shaped
  rw [c1, decide_eq_true c2]
  rfl
theorem dp_ints {K : PySem.W.Frag} {H : Hp} : ∀ ns : List Nat, DpAll K H (inat ns) (ns.map fun (k : Nat) => PyData.int (k : Int))
  | [] => .nil
  | n :: r => .cons (.int _) (dp_ints r)
theorem lay_ints : ∀ ns : List Nat, PyData.canLayAll0 (ns.map fun (k : Nat) => PyData.int (k : Int)) = true ∧ PyData.depthAll (ns.map fun (k : Nat) => PyData.int (k : Int)) = 0
  | [] => ⟨by simp only [List.map_nil, PyData.canLayAll0], by simp only [List.map_nil, PyData.depthAll]⟩
  | n :: r => by
    obtain ⟨h1, h2⟩ := lay_ints r
    constructor
    · simp only [List.map_cons, PyData.canLayAll0, PyData.canLay0, h1, Bool.and_self]
    · simp only [List.map_cons, PyData.depthAll, PyData.depth, h2]
      decide
theorem shaped_stay (ns : List Nat) : SeqAt.shaped (.tuple [.str "main", .list (ns.map fun (k : Nat) => PyData.int (k : Int))]) = true ∧ PyData.canLay0 (.tuple [.str "main", .list (ns.map fun (k : Nat) => PyData.int (k : Int))]) = true := by
  obtain ⟨h1, h2⟩ := lay_ints ns
  have c1 : PyData.canLay0 (.tuple [.str "main", .list (ns.map fun (k : Nat) => PyData.int (k : Int))]) = true := by
    simp only [PyData.canLay0, PyData.canLayAll0, h1]
    decide +kernel
  refine ⟨?_, c1⟩
  have c2 : PyData.depth (.tuple [.str "main", .list (ns.map fun (k : Nat) => PyData.int (k : Int))]) ≤ 64 := by
    simp only [PyData.depth, PyData.depthAll, h2]
    decide
  unfold SeqAt.shaped
  rw [c1, decide_eq_true c2]
  rfl
abbrev s_right : Stmt := top 65
theorem sc_right : FnScope ["_law_cells", "_law_labels_here", "_law_told", "_law_kind", "_law_x", "_law_double", "_law_program", "_law_every", "_law_two"] ["_law_cells", "_law_labels_here"] (defScope s_right) := ⟨rfl, rfl, rfl, by decide +kernel, rfl, by decide +kernel, by decide +kernel⟩
def sp_right : Sp := fun vs H Q _ => ∃ (Lc Ll : Addr) (cs : List Int) (ls : List Str), vs = [.ref Lc, .ref Ll] ∧ H Lc = some (.lst (cs.map V.int)) ∧ cs.length = 10 ∧ H Ll = some (.lst (ls.map V.str)) ∧ LabOk ls ∧ ∀ H', Same H H' → Q (.bl true) H'
section
variable {P : Program} {wd : World} {K : PySem.W.Frag} {mg : Str → Option Value} {base : Heap} {C CN CW : Addr}
theorem ok_right (D : Dfn K mg "_law_right" s_right ["_law_cells", "_law_labels_here"]) (T : Txt K mg) (c_handed : Cal P wd K mg base CX0 2 "_law_handed" ["_law_cells", "_law_labels_here"] (sp_handed K)) (c_size : Cal P wd K mg base CX0 14 "_law_size" ["_law_told"] (sp_size K 14)) (c_many : Cal P wd K mg base CX0 15 "_law_many" ["_law_told", "_law_kept"] (sp_many K))
    (c_clash : Cal P wd K mg base CX0 54 "clash" ["program"] (sp_clash K)) (c_schemes : Cal P wd K mg base (L2.CX P wd) 55 "schemes" ["program"] (sp_schemes K CN)) (c_hold : Cal P wd K mg base CX0 55 "hold" ["program", "k", "chosen"] (sp_hold K)) (c_stay : Cal P wd K mg base CX0 16 "_law_stay" ["_law_told", "_law_many_here"] (sp_stay K))
    (c_refused : Cal P wd K mg base CX0 56 "_law_refused" ["_law_program"] (sp_refused K)) : Cal P wd K mg base CX0 57 "_law_right" ["_law_cells", "_law_labels_here"] sp_right := by
  have S := sc_right
  refine cal_of D S (fun vs H Q E h => ?_) (fun f cdv A outer s0 H vs Q E hr h => ?_)
  · obtain ⟨Lc, Ll, cs, ls, rfl, _⟩ := h
    rfl
  obtain ⟨Lc, Ll, cs, ls, rfl, hc, c10, hl, ok, q⟩ := h
  have hu64 : (A.deeper (envOfC "_law_right" (defScope s_right) s0.heap.objs.size f cdv)).units + 64 < cLine := room_u hr
  refine ⟨_, (pss_cons (ps_asg (pe_cal c_handed (hr.mono (by decide)) pass0 (pa_cons (pv 0) (pa_cons (pv 1) pa_nil))) (pg_tup rfl (pgs_cons (pg_name (i := 2) S.nd rfl (Or.inl rfl)) (pgs_cons (pg_name (i := 3) S.nd rfl (Or.inl rfl)) pgs_nil))))
    (pss_cons (ps_set (i := 4) S.nd rfl (Or.inl rfl) (pe_tup (pa_cons pe_str (pa_cons pe_str pa_nil))))
    (pss_cons (ps_set (i := 5) S.nd rfl (Or.inl rfl) (pe_tup (pa_cons pe_str (pa_cons pe_str (pa_cons (pe_tup (pa_cons pe_str (pa_cons (pe_ix ix_list (pv 1) pe_int (fun _ _ => rfl)) (pa_cons (pv 4) (pa_cons (pe_tup (pa_cons pe_str (pa_cons (pe_ix ix_list (pv 1) pe_int (fun _ _ => rfl)) (pa_cons (pv 4) (pa_cons (pe_tup (pa_cons pe_str pa_nil)) pa_nil))))) pa_nil))))) pa_nil)))))
    (pss_cons (ps_set (i := 6) S.nd rfl (Or.inl rfl) (pe_lst (pa_cons (pe_tup (pa_cons (pe_ix ix_list (pv 1) pe_int (fun _ _ => rfl)) (pa_cons (pv 5) pa_nil))) (pa_cons (pe_tup (pa_cons pe_str (pa_cons (pe_tup (pa_cons pe_str (pa_cons (pe_tup (pa_cons pe_str (pa_cons (pe_ix ix_list (pv 1) pe_int (fun _ _ => rfl)) pa_nil))) (pa_cons (pv 2) pa_nil)))) pa_nil))) pa_nil))))
    (pss_cons (ps_set (i := 7) S.nd rfl (Or.inl rfl) (pe_listRg rfl rfl T.list (prg_1 rfl T.range (pe_op op_add pe_int (pe_cal c_size (hr.mono (by decide)) pass0 (pa_cons (pv 2) pa_nil))))))
    (pss_cons (ps_if (pt_cmpR op_le (pe_cal c_many (hr.mono (by decide)) pass0 (pa_cons (pv 2) (pa_cons (pv 7) pa_nil))) pe_int (nomark _))
      (pss_cons (ps_set (i := 8) S.nd rfl (Or.inl rfl) (pe_tup (pa_cons pe_str (pa_cons (pe_tup (pa_cons pe_str (pa_cons (pe_tupleOf rfl T.tuple (pe_callB cr_sortedSO rfl T.sorted (by decide +kernel) (pa_cons (pe_lst (pa_cons (pe_tup (pa_cons (pe_ix ix_list (pv 1) pe_int (fun _ _ => rfl)) (pa_cons (pv 3) pa_nil))) (pa_cons (pe_tup (pa_cons (pe_ix ix_list (pv 1) pe_int (fun _ _ => rfl)) (pa_cons (pv 3) pa_nil))) pa_nil))) pa_nil))) (pa_cons pe_non pa_nil)))) pa_nil))))
      (pss_one (ps_ret (pe_and (pe_cmpR op_isN (pe_cal c_clash (hr.mono (by decide)) pass0 (pa_cons (pv 6) pa_nil)) pe_non (nomark _)) (pe_and (pe_cmpR (op_eqD hu64) (pe_ix ix_list (pe_cal c_schemes (hr.mono (by decide)) passL (pa_cons (pv 6) pa_nil)) pe_int (fun _ _ => rfl)) (pe_tup (pa_cons (pv 8) (pa_cons (pe_lst pa_nil) pa_nil))) (nomark _)) (pe_one (pe_cmpR op_isBl (pe_cal c_hold (hr.mono (by decide)) pass0 (pa_cons (pv 6) (pa_cons pe_int (pa_cons (pv 7) pa_nil)))) pe_bl (nomark _))))))))
      pss_nil)
    (pss_one (ps_ret (pe_and (pe_cmpR (op_eqD hu64) (pe_cal c_clash (hr.mono (by decide)) pass0 (pa_cons (pv 6) pa_nil)) (pe_tup (pa_cons pe_str (pa_cons (pe_cal c_stay (hr.mono (by decide)) pass0 (pa_cons (pv 2) (pa_cons (pe_callB call_len_seq rfl T.len PySem.boot_len (pa_cons (pv 7) pa_nil)) pa_nil))) pa_nil))) (nomark _)) (pe_one (pe_cal c_refused hr pass0 (pa_cons (pv 6) pa_nil)))))))))))), ?_⟩
  obtain ⟨a, b, n1, lr, rfl⟩ : ∃ a b n1 lr, ls = a :: b :: n1 :: lr := by
    match ls, ok.len with
    | a :: b :: n1 :: lr, _ => exact ⟨a, b, n1, lr, rfl⟩
  have nd := ok.nd
  have nab : a ≠ b := fun z => (List.nodup_cons.mp nd).1 (by rw [z]; exact List.mem_cons_self)
  have ua : a ∈ a :: b :: n1 :: lr := List.mem_cons_self
  have ub : b ∈ a :: b :: n1 :: lr := List.mem_cons_of_mem _ List.mem_cons_self
  have un : n1 ∈ a :: b :: n1 :: lr := List.mem_cons_of_mem _ (List.mem_cons_of_mem _ List.mem_cons_self)
  refine ⟨_, rfl, _, rfl, Lc, Ll, cs, _, rfl, hc, c10, hl, ok, fun p bk x E H1 s1 g1 hx hj xo => ?_⟩
  refine ⟨p, _, rfl, .of g1, rfl, _, _, rfl, _, _, rfl, rfl, ?_⟩
  have mh : MainH E (a :: b :: n1 :: lr) a b := ⟨xo.sm, xo.wf, xo.lb, by have := xo.sz; omega, xo.fu, by have := xo.dp; omega, xo.kd, by rw [ok.len]; decide, nab, ua, ub, (ok.ok a ua).1, (ok.ok b ub).1⟩
  have pf := pf_of mh (ok.ok n1 un).2
  have d14 : E.dp < 14 := by have := xo.dp; omega
  have sN : (spots nm0 (exM n1 E) 0).length = 2 + sz E := by
    rw [spots_main, List.length_cons, List.length_cons, spots_len 3 mh.sm]
    omega
  -- _law_x
  refine ⟨(by show 2 ≤ sizeLine; decide), fun px npx => ?_⟩
  refine newG npx fun H2 s2 gx => ?_
  have s12 := s1.trans s2
  -- _law_double
  refine ⟨_, rfl, Ll, _, _, _, rfl, rfl, .of (s12 _ _ hl), atI_nat (j := 0) rfl, _, rfl, _, rfl, Ll, _, _, _, rfl, rfl, .of (s12 _ _ hl), atI_nat (j := 1) rfl, _, rfl, (by show 1 ≤ sizeLine; decide), fun q3 m3 => ?_⟩
  refine newG m3 fun H3 s3 g3 => ?_
  refine ⟨(by show 4 ≤ sizeLine; decide), fun q2 m2 => ?_⟩
  refine newG m2 fun H4 s4 g2 => ?_
  refine ⟨(by show 4 ≤ sizeLine; decide), fun q1 m1 => ?_⟩
  refine newG m1 fun H5 s5 g1' => ?_
  refine ⟨(by show 3 ≤ sizeLine; decide), fun q0 m0 => ?_⟩
  refine newG m0 fun H6 s6 g0 => ?_
  have s26 := s3.trans (s4.trans (s5.trans s6))
  have s06 := s12.trans s26
  have ixD : IsX K H6 (.ref q0) (exD a b) := .lam (.of g0) (.wth (.of (s6 _ _ g1')) (.name (.of (s26 _ _ gx))) (.wth (.of ((s5.trans s6) _ _ g2)) (.name (.of (s26 _ _ gx))) (.empty (.of ((s4.trans (s5.trans s6)) _ _ g3)))))
  -- _law_program
  refine ⟨_, rfl, Ll, _, _, _, rfl, rfl, .of (s06 _ _ hl), atI_nat (j := 2) rfl, _, rfl, (by show 2 ≤ sizeLine; decide), fun q4 m4 => ?_⟩
  refine newG m4 fun H7 s7 g4 => ?_
  refine ⟨_, rfl, Ll, _, _, _, rfl, rfl, .of ((s06.trans s7) _ _ hl), atI_nat (j := 2) rfl, (by show 2 ≤ sizeLine; decide), fun q7 m7 => ?_⟩
  refine newG m7 fun H8 s8 g7 => ?_
  refine ⟨_, rfl, (by show 3 ≤ sizeLine; decide), fun q6 m6 => ?_⟩
  refine newG m6 fun H9 s9 g6 => ?_
  refine ⟨(by show 2 ≤ sizeLine; decide), fun q5 m5 => ?_⟩
  refine newG m5 fun H10 s10 g5 => ?_
  refine ⟨(by show 2 ≤ sizeLine; decide), fun Lp mp => ?_⟩
  refine newG mp fun H11 s11 gp => ?_
  have t910 := s10.trans s11
  have t89 := s9.trans t910
  have t78 := s8.trans t89
  have t67 := s7.trans t78
  have s0B := s06.trans t67
  have s1B : Same H1 H11 := s2.trans (s26.trans t67)
  have prg : PrgAt K H11 Lp n1 (exD a b) (exM n1 E) := ⟨q4, q5, .ref q0, .ref q6, gp, .of (t78 _ _ g4), .of (s11 _ _ g5), ixD.keep (same_keep t67), .app (.of (t910 _ _ g6)) (.name (.of (t89 _ _ g7))) (hx.keep (same_keep s1B))⟩
  -- _law_every
  have sz80 := mh.sz
  refine ⟨_, rfl, x, E, rfl, hx.keep (same_keep s1B), mh.sm, d14, fun H12 s12' => ⟨_, _, rfl, rfl, ((2 + sz E : Nat) : Int), congrArg V.int (by show (2 : Int) + _ = _; omega), RgOk.of_le (by omega) (by omega) (by omega) (by omega), fun Lv nv => ?_⟩⟩
  refine newG nv fun H13 s13 gv => ?_
  rw [rg_v] at gv
  have s1D := s1B.trans (s12'.trans s13)
  have s0D := s0B.trans (s12'.trans s13)
  have prg13 := prg.same (s12'.trans s13)
  -- the parts counted
  refine ⟨_, rfl, _, rfl, x, Lv, E, _, rfl, hx.keep (same_keep s1D), mh.sm, d14, gv, fun H14 s14 => ⟨_, _, rfl, rfl, _, rfl, ?_⟩⟩
  have s1E := s1D.trans s14
  have s0E := s0D.trans s14
  have prg14 := prg13.same s14
  have gv14 := s14 _ _ gv
  have hl14 := s0E _ _ hl
  by_cases hm : manyS (selC (List.range (2 + sz E))) E ≤ 200
  · have okt : okM E (List.range (spots nm0 (exM n1 E) 0).length) = true := by rw [sN]; exact decide_eq_true hm
    have e1 : decide (((manyS (selC (List.range (2 + sz E))) E : Nat) : Int) ≤ 200) = true := decide_eq_true (by omega)
    rw [e1]
    refine iteT ?_
    refine ⟨_, rfl, Ll, _, _, _, rfl, rfl, .of hl14, atI_nat (j := 0) rfl, _, rfl, (by show 2 ≤ sizeLine; decide), fun w1 nw1 => ?_⟩
    refine newG nw1 fun G1 r1 k1 => ?_
    refine ⟨_, rfl, Ll, _, _, _, rfl, rfl, .of (r1 _ _ hl14), atI_nat (j := 1) rfl, _, rfl, (by show 2 ≤ sizeLine; decide), fun w2 nw2 => ?_⟩
    refine newG nw2 fun G2 r2 k2 => ?_
    refine ⟨(by show 2 ≤ sizeLine; decide), fun w3 nw3 => ?_⟩
    refine newG nw3 fun G3 r3 k3 => ?_
    have r23 := r2.trans r3
    have r13 := r1.trans r23
    have hjG : IsJ K G3 (.ref bk) (kdE 0 E) := hj.keep (same_keep (s1E.trans r13))
    have ifl : IsFl K G3 [.ref w1, .ref w2] [(a, kdE 0 E), (b, kdE 0 E)] := .cons (r23 _ _ k1) hjG (.cons (r3 _ _ k2) hjG .nil)
    obtain ⟨lb1, lb2⟩ := ifl.lbs
    have ndab : (([(a, kdE 0 E), (b, kdE 0 E)] : List (Str × Kd)).map (·.1)).Nodup := List.nodup_cons.mpr ⟨fun z => nab (List.mem_singleton.mp z), by simp⟩
    refine ⟨w3, _, lbV G3, rfl, .of k3, lb2, by rw [lb1]; exact ndab, fun ys w4 pm pw nw4 => ?_⟩
    refine newG nw4 fun G4 r4 k4 => ?_
    refine .inl ⟨w4, ys, rfl, .of k4, fun w5 nw5 => ?_⟩
    refine newG nw5 fun G5 r5 k5 => ?_
    refine ⟨(by show 3 ≤ sizeLine; decide), fun w6 nw6 => ?_⟩
    refine newG nw6 fun G6 r6 k6 => ?_
    refine ⟨(by show 2 ≤ sizeLine; decide), fun w7 nw7 => ?_⟩
    refine newG nw7 fun G7 r7 k7 => ?_
    have r67 := r6.trans r7
    have r37 := r4.trans (r5.trans r67)
    have js := fl_sorted ifl ndab pm pw
    have j2 : IsJ K G7 (.ref w7) (rcD a b (kdE 0 E)) := by
      have := IsJ.rc (K := K) (H := G7) (.of k7) (.of (r7 _ _ k6)) (.of (r67 _ _ k5)) (isJs_keep (same_keep r37) _ _ js)
      rw [srt2 _ nab] at this
      exact this
    have s14G := r13.trans r37
    have prgG := prg14.same s14G
    refine ⟨_, rfl, Lp, n1, _, _, _, _, _, _, prgG, pf, rfl, fun _ G8 r8 => ⟨rfl, _, rfl, iteT ?_⟩, fun z => absurd (okt.symm.trans z) (by decide)⟩
    refine ⟨_, rfl, Lp, n1, _, _, _, _, _, _, prgG.same r8, pf, rfl, fun _ u1 sc sc2 G9 r9 h9 kn => ?_, fun z => absurd (okt.symm.trans z) (by decide)⟩
    refine ⟨u1, _, _, .ref sc2, rfl, rfl, .of h9, atI_nat (j := 1) rfl, ?_⟩
    refine ⟨_, rfl, (by show 0 ≤ sizeLine; decide), fun u2 nu2 => ?_⟩
    refine newG nu2 fun G10 r10 h10 => ?_
    refine ⟨(by show 2 ≤ sizeLine; decide), fun u3 nu3 => ?_⟩
    refine newG nu3 fun G11 r11 h11 => ?_
    obtain ⟨uu, ull, f1, f2, f3⟩ := kn.same (r10.trans r11)
    rw [sub_id] at f2
    have j3 := j2.keep (same_keep (r8.trans (r9.trans (r10.trans r11))))
    obtain ⟨sh1, sh2⟩ := shaped_two (ls := a :: b :: n1 :: lr) (U := []) mh.s0 mh.s1 mh.sm mh.lb mh.fu
    refine ⟨.tuple [(rcD a b (kdE 0 E)).dat, .list []], .tuple [(rcD a b (kdE 0 E)).dat, .list []], .tup f1 (.cons (isK_dp _ _ f2) (.cons (.lst (.of f3) .nil) .nil)), .tup (.of h11) (.cons (isJ_dp _ _ j3) (.cons (.lst (.of (r11 _ _ h10)) .nil) .nil)), sh1, sh1, _, rfl, ?_⟩
    rw [SeqAt.eqv_refl _ sh2]
    have r711 := r8.trans (r9.trans (r10.trans r11))
    refine iteT ⟨_, rfl, _, rfl, Lp, Lv, n1, _, _, _, _, _, okM E, List.range (2 + sz E), prgG.same r711, pf, rfl, (s14G.trans r711) _ _ gv14, by rw [sN]; exact List.Sublist.refl _, fun G12 r12 => ?_⟩
    rw [sN] at okt
    rw [okt]
    exact ⟨_, _, rfl, rfl, q G12 (s0E.trans (s14G.trans (r711.trans r12)))⟩
  · have okf : okM E (List.range (spots nm0 (exM n1 E) 0).length) = false := by rw [sN]; exact decide_eq_false hm
    have e1 : decide (((manyS (selC (List.range (2 + sz E))) E : Nat) : Int) ≤ 200) = false := decide_eq_false (by omega)
    rw [e1]
    refine iteF ?_
    refine ⟨_, rfl, Lp, n1, _, _, _, _, _, _, prg14, pf, rfl, fun z => absurd (okf.symm.trans z) (by decide), fun _ u1 u2 G1 r1 h1 h2 => ?_⟩
    have hlen : (inat (List.range (2 + sz E))).length = 2 + sz E := by simp [inat]
    refine ⟨_, rfl, _, rfl, Lv, _, rfl, .inl (.of (r1 _ _ gv14)), x, (inat (List.range (2 + sz E))).length, E, rfl, hx.keep (same_keep (s1E.trans r1)), mh.sm, d14, by rw [hlen]; omega, fun u3 G2 r2 h3 => ?_⟩
    rw [hlen] at h3
    rw [sN] at h2
    refine ⟨(by show 2 ≤ sizeLine; decide), fun u4 nu4 => ?_⟩
    refine newG nu4 fun G3 r3 h4 => ?_
    have r23 := r2.trans r3
    obtain ⟨sh1, sh2⟩ := shaped_stay (lcF (okM E) (2 + sz E))
    refine ⟨_, _, .tup (.of (r23 _ _ h1)) (.cons (.str _) (.cons (.lst (.of (r23 _ _ h2)) (dp_ints _)) .nil)), .tup (.of h4) (.cons (.str _) (.cons (.lst (.of (r3 _ _ h3)) (dp_ints _)) .nil)), sh1, sh1, _, rfl, ?_⟩
    rw [SeqAt.eqv_refl _ sh2]
    have r13 := r1.trans r23
    refine iteT ⟨_, rfl, Lp, n1, _, _, _, _, _, _, prg14.same r13, pf, rfl, fun G4 r4 => ?_⟩
    rw [okf]
    exact q G4 (s0E.trans (r13.trans r4))
end
end Fw
/-! Fw29: law. -/
namespace Fw
open PySem PySem.Spec PyProof.Rows L2
/-- list + list, the first of any sort -/
def rCatQ (K : PySem.W.Frag) : R2 := fun x y H Q => ∃ l b xs zs, x = .ref l ∧ y = .ref b ∧ SqL K H l xs ∧ H b = some (.lst zs) ∧ xs.length + zs.length ≤ sizeLine ∧ ∀ p, H p = none → Q (.ref p) (upd H p (.lst (xs ++ zs)))
theorem op_catQ {X : Cx} : OpR X (binaryOp .Add) (rCatQ X.K) := by
  intro pins s σ H x y v u Q I rx ry h
  obtain ⟨l, b, xs, zs, rfl, rfl, hH, hB, hz, q⟩ := h
  cases rx
  cases ry
  obtain ⟨its, r, pl, _⟩ := I.list hH
  obtain ⟨z2, its2, n2, r2, hl2, e2⟩ := I.lstM hB
  have hl1 := r.length
  obtain ⟨⟨cls, dd, data, sl⟩, ho, hc, n, hd⟩ := pl.isList
  simp only at hc hd
  subst hc hd
  have ea : its.toArray ++ its2.toArray = (its ++ its2).toArray := by simp
  refine concat_meets ⟨_, ho, rfl⟩ ⟨_, e2, rfl⟩ noFill_list_add seq_list_add PySem.F.slot_list_add PySem.F.entry_list_add (PySem.F.args_list_add_2 _ _) (list_addW l b its.toArray its2.toArray n n2 dd none sl #[] (by rw [List.size_toArray, List.size_toArray]; omega)) ⟨ho, e2, ?_⟩
  rw [ea]
  exact ⟨.ref _, _, I.lnew (t' := s.toks) (r.append r2) (by rw [List.length_append]; omega), rfl, q _ I.fresh⟩
abbrev s_law : Stmt := top 66
theorem sc_law : FnScope ["_law_script", "_law_cells", "_law_labels_here", "_law_k", "_law_cell", "_law_j"] ["_law_script"] (defScope s_law) := ⟨rfl, rfl, rfl, by decide +kernel, rfl, by decide +kernel, by decide +kernel⟩
def sp_law (K : PySem.W.Frag) : Sp := fun vs H Q _ => ∃ (a : Addr) (ns : List Int), vs = [.ref a] ∧ SqL K H a (ns.map V.int) ∧ ns.length ≤ 1000 ∧ ∀ H', Same H H' → Q (.bl true) H'
theorem rg10 (m : Int) (h1 : 10 ≤ m) (h2 : m ≤ 30) : ∃ n, n ≤ 3 ∧ RgC 0 m 10 n := by
  have key : ∀ k : _root_.Fin 31, 10 ≤ k.1 → ∃ n : _root_.Fin 4, (10 : Int) ≠ 0 ∧ (10 : Int).natAbs < 1073741824 ∧ Builtin.Range.small 0 (k.1 : Int) 10 = true ∧ Builtin.Range.rangeSize 0 (k.1 : Int) 10 = n.1 := by decide +kernel
  obtain ⟨n, hn⟩ := key ⟨m.toNat, by omega⟩ (by show 10 ≤ m.toNat; omega)
  have e : ((m.toNat : Nat) : Int) = m := Int.toNat_of_nonneg (by omega)
  refine ⟨n.1, by omega, ?_⟩
  have hn : (10 : Int) ≠ 0 ∧ (10 : Int).natAbs < 1073741824 ∧ Builtin.Range.small 0 ((m.toNat : Nat) : Int) 10 = true ∧ Builtin.Range.rangeSize 0 ((m.toNat : Nat) : Int) 10 = n.1 := hn
  rw [e] at hn
  exact hn
section
variable {P : Program} {wd : World} {K : PySem.W.Frag} {mg : Str → Option Value} {base : Heap} {C CN CW : Addr}
theorem ok_law {f : Addr} {fd : FuncData} (F : Fun K "law" "law" s_law f fd) (T : Txt K mg) (c_mixed : Cal P wd K mg base CX0 1 "_law_mixed" ["_law_cell", "_law_k"] sp_mixed) (c_labels : Cal P wd K mg base CX0 2 "_law_labels" ["_law_cell"] sp_labels) (c_right : Cal P wd K mg base CX0 57 "_law_right" ["_law_cells", "_law_labels_here"] sp_right) :
    FnOk P wd K mg base CX0 58 f fd ["_law_script"] (sp_law K) := by
  have S := sc_law
  refine F.ok S (fun vs H Q E h => ?_) (fun cdv A outer s0 H vs Q E hr h => ?_)
  · obtain ⟨a, ns, rfl, _⟩ := h
    rfl
  obtain ⟨a, ns, rfl, hs, hn, q⟩ := h
  refine ⟨_, (pss_cons (ps_set (i := 1) S.nd rfl (Or.inr rfl) (pe_lc (own := [("_law_k", 3), ("_law_cell", 4)]) rfl S.nd (pi_enum rfl T.enumerate (pa_cons (pe_slice sl_list (pe_op op_catQ (pv 0) (pe_op op_rep (pe_lst (pa_cons pe_int pa_nil)) pe_int)) po_none (po_some pe_int)) pa_nil)) (blkOk_by (own := [("_law_k", 3), ("_law_cell", 4)]) (N := ["_law_script", "_law_cells", "_law_labels_here", "_law_k", "_law_cell", "_law_j"]) (sc := defScope s_law) (by decide +kernel)) (fun _ _ _ _ _ => (pg_tupK (K := K) (n := 2) rfl rfl (pgs_cons (pg_name (i := 3) S.nd rfl (Or.inl rfl)) (pgs_cons (pg_name (i := 4) S.nd rfl (Or.inl rfl)) pgs_nil)))) (fun _ _ _ _ _ => pts_nil) (fun _ _ _ _ _ => (pe_cal c_mixed (hr.mono (by decide)) pass0 (pa_cons (pv 4) (pa_cons (pv 3) pa_nil))))))
    (pss_cons (ps_set (i := 2) S.nd rfl (Or.inl rfl) (pe_cal c_labels (hr.mono (by decide)) pass0 (pa_cons (pe_ix ix_list (pv 1) pe_int (fun _ _ => rfl)) pa_nil)))
    (pss_cons (ps_for PassesOwn.never rfl (pi_range3 rfl T.range (pa_cons pe_int (pa_cons (pe_callB (call_min2 rfl) rfl T.min (by decide +kernel) (pa_cons pe_int (pa_cons (pe_op op_add pe_int (pe_callB call_len_seq rfl T.len PySem.boot_len (pa_cons (pv 0) pa_nil))) pa_nil))) (pa_cons pe_int pa_nil)))) (pg_name (i := 3) S.nd rfl (Or.inr rfl))
      (pss_one (ps_if (pt_not (pt_val (pe_cal c_right hr pass0 (pa_cons (pe_lc (own := [("_law_j", 5)]) rfl S.nd (pi_range1 rfl T.range (pa_cons pe_int pa_nil)) (blkOk_by (own := [("_law_j", 5)]) (N := ["_law_script", "_law_cells", "_law_labels_here", "_law_k", "_law_cell", "_law_j"]) (sc := defScope s_law) (by decide +kernel)) (fun _ _ _ _ _ => (pg_name (i := 5) S.nd rfl (Or.inl rfl))) (fun _ _ _ _ _ => pts_nil) (fun _ _ _ _ _ => (pe_op op_add (pe_ix (ix_listK (K := K) rfl) (pv 1) (pe_op op_add (pv 3) (pv 5)) (fun _ _ => rfl)) (pe_ix (ix_listK (K := K) rfl) (pv 1) (pe_op op_add (pe_op op_add (pv 3) (pv 5)) pe_int) (fun _ _ => rfl))))) (pa_cons (pv 2) pa_nil)))))
        (pss_one (ps_ret pe_bl))
        pss_nil)))
    (pss_one (ps_ret pe_bl))))), ?_⟩
  refine ⟨_, rfl, (by show 1 ≤ sizeLine; decide), fun p0 n0 => ?_⟩
  refine newG n0 fun H1 s1 h1 => ?_
  refine ⟨p0, 60, _, rfl, rfl, h1, by decide, by decide, by show 1 * 60 ≤ sizeLine; decide, fun p1 n1 => ?_⟩
  have er : (List.replicate (60 : Int).toNat [V.int 0]).flatten = (List.replicate 60 (0 : Int)).map V.int := by decide +kernel
  rw [er]
  refine newG n1 fun H2 s2 h2 => ?_
  have s12 := s1.trans s2
  refine ⟨a, p1, _, _, rfl, rfl, s12.seq hs, h2, sz_le (by rw [List.length_map, List.length_map, List.length_replicate]; omega), fun p2 n2 => ?_⟩
  rw [← List.map_append]
  refine newG n2 fun H3 s3 h3 => ?_
  refine ⟨60, rfl, p2, _, rfl, .of h3, fun p3 n3 => ?_⟩
  have cut : cutV ((ns ++ List.replicate 60 (0 : Int)).map V.int) none (some 60) = ((ns ++ List.replicate 60 (0 : Int)).take 60).map V.int := by
    unfold cutV
    have e : HT.sIx ((ns ++ List.replicate 60 (0 : Int)).map V.int).length ((ns ++ List.replicate 60 (0 : Int)).map V.int).length (some 60) = 60 := by
      rw [show (some (60 : Int)) = some ((60 : Nat) : Int) from rfl, HT.sIx_nat, List.length_map, List.length_append, List.length_replicate]
      omega
    rw [e, HT.sIx_none, List.drop_zero, Nat.sub_zero, List.map_take]
  rw [cut]
  have l60 : ((ns ++ List.replicate 60 (0 : Int)).take 60).length = 60 := by
    rw [List.length_take, List.length_append, List.length_replicate]
    omega
  generalize (ns ++ List.replicate 60 (0 : Int)).take 60 = ws at l60
  refine newG n3 fun H4 s4 h4 => ?_
  have s04 := s12.trans (s3.trans s4)
  have lw : (ws.map V.int).length = 60 := by rw [List.length_map, l60]
  refine ⟨p3, _, rfl, .of h4, fun D nD => ?_⟩
  refine lc_it (walk_enum (K := K) (a := p3) (xs := ws.map V.int)) (fun i G => ∃ cs : List Int, Same H4 G ∧ G D = some (.lst (cs.map V.int)) ∧ cs.length = i)
    ⟨[], keep_new (S := No) nD |>.toSame, upd_same, rfl⟩ (fun i G _ ⟨_, s, _⟩ => .of (s _ _ h4)) ?_ ?_
  · rintro i x G G' hi ⟨cs, sG, gD, lc⟩ ⟨T2, u1, u2, rfl, nT, rfl, eu1, eu2⟩
    cases eu1
    rw [lw] at hi
    have eu2 : (ws.map V.int)[i]? = some u2 := eu2
    rw [List.getElem?_map] at eu2
    cases hw : ws[i]? with
    | none => rw [hw] at eu2; cases eu2
    | some c =>
      rw [hw] at eu2
      cases eu2
      refine newG nT fun G1 t1 gT => ?_
      refine ⟨T2, _, rfl, .of gT, rfl, _, _, rfl, _, _, rfl, rfl, rfl, ?_⟩
      refine tyes ⟨_, rfl, _, rfl, c, i, rfl, by omega, _, t1 _ _ gD, sz_lt (by rw [List.length_map]; omega), ?_⟩
      refine mutG (t1 _ _ gD) rfl fun G2 k2 g2 => ⟨cs ++ [mix c i], same_over (sG.trans t1) k2 nD, ?_, by rw [List.length_append, lc]; rfl⟩
      rw [g2, List.map_append]
      rfl
  · rintro G ⟨cs, sG, gD, lc⟩
    rw [lw] at lc
    have s0G := s04.trans sG
    have cg : ∀ i, i < 60 → ∃ c, (cs.map V.int)[i]? = some (.int c) := fun i hi => by
      have h : i < cs.length := by omega
      exact ⟨cs[i], by rw [List.getElem?_map, List.getElem?_eq_getElem h]; rfl⟩
    obtain ⟨c0, hc0⟩ := cg 0 (by decide)
    refine ⟨_, rfl, D, _, _, _, rfl, rfl, .of gD, atI_nat hc0, c0, rfl, fun Ll ls G1 t1 hl ok => ?_⟩
    have gD1 := t1 _ _ gD
    have s01 := s0G.trans t1
    refine ⟨_, rfl, a, _, rfl, .inl (s01.seq hs), _, _, rfl, rfl, _, _, rfl, ?_⟩
    have hm1 : 10 ≤ (if (10 : Int) + ((ns.map V.int).length : Int) < 30 then (10 : Int) + ((ns.map V.int).length : Int) else 30) := by split <;> omega
    have hm2 : (if (10 : Int) + ((ns.map V.int).length : Int) < 30 then (10 : Int) + ((ns.map V.int).length : Int) else 30) ≤ 30 := by split <;> omega
    obtain ⟨n, hn3, hrg⟩ := rg10 _ hm1 hm2
    refine ⟨0, _, 10, n, rfl, hrg, for_it (walk_rangeC (lo := 0) (c := 10) (n := n)) (fun i σ G' => ∃ (x y z : Option V), σ = [some (.ref a), some (.ref D), some (.ref Ll), x, y, z] ∧ Same G1 G') ⟨none, none, none, rfl, .refl _⟩ (fun _ _ _ _ _ => trivial) ?_ ?_⟩
    · rintro i x σ G2' G2 hi ⟨x1, y1, z1, rfl, sG2⟩ ⟨rfl, rfl⟩
      have e0 : (0 : Int) + (i : Int) * 10 = ((i * 10 : Nat) : Int) := by omega
      show gName 3 (V.int (0 + (i : Int) * 10)) _ _ _
      rw [e0]
      have hi6 : i < 3 := by omega
      refine ⟨10, rfl, by decide, by decide, fun D2 nD2 => ?_⟩
      refine lc_range (lo := 0) (n := 10) (fun j G' => ∃ es : List Int, Same G2 G' ∧ G' D2 = some (.lst (es.map V.int)) ∧ es.length = j)
        ⟨[], keep_new (S := No) nD2 |>.toSame, upd_same, rfl⟩ ?_ ?_
      · rintro j hj G' ⟨es, sE, gE, le⟩
        have sE1 := sG2.trans sE
        have gD2 := sE1 _ _ gD1
        obtain ⟨c1, hc1⟩ := cg (i * 10 + j) (by omega)
        obtain ⟨c2, hc2⟩ := cg (i * 10 + j + 30) (by omega)
        have e1 : ((i * 10 : Nat) : Int) + (0 + (j : Int)) = ((i * 10 + j : Nat) : Int) := by omega
        have e2 : ((i * 10 : Nat) : Int) + (0 + (j : Int)) + 30 = ((i * 10 + j + 30 : Nat) : Int) := by omega
        refine ⟨rfl, tyes ⟨_, rfl, _, rfl, _, rfl, _, _, rfl, rfl, D, _, _, _, rfl, rfl, .of gD2, (by rw [e1]; exact atI_nat hc1), _, rfl, _, rfl, _, rfl, _, _, rfl, rfl, _, _, rfl, rfl, D, _, _, _, rfl, rfl, .of gD2, (by rw [e2]; exact atI_nat hc2), ?_⟩⟩
        refine ⟨_, _, rfl, rfl, _, gE, sz_lt (by rw [List.length_map]; omega), es ++ [c1 + c2], fun b o z => ?_, ?_, by rw [List.length_append, le]; rfl⟩
        · have ne : b ≠ D2 := fun e => by
            subst e
            rw [nD2] at z
            cases z
          rw [upd_ne ne]
          exact sE _ _ z
        · rw [upd_same, List.map_append]
          rfl
      · rintro G' ⟨es, sE, gE, le⟩
        have sE1 := sG2.trans sE
        refine ⟨_, rfl, D2, Ll, es, ls, rfl, gE, le, sE1 _ _ hl, ok, fun H' s' => ⟨true, rfl, iteF ⟨_, _, _, rfl, sE1.trans s'⟩⟩⟩
    · rintro σ G2 ⟨x1, y1, z1, rfl, sG2⟩
      exact q G2 (s01.trans sG2)
end
end Fw
/-! FwZ: the end: what the top has written, all promises joined. -/
namespace Fw
open PySem PySem.Spec PyProof.Rows L2
/-- how a def of the text takes its arguments -/
def BD (x qual : Str) (st : Stmt) (ps : List Str) : Prop := ∀ (kV doc pm : Value) (an : Option Addr) (cdv ct : Value) (us : List Value), us.length = ps.length → bindArgs (PySem.W.fnOf x qual (defArgs st) (defBody st) (defScope st) .none kV doc pm an cdv ct) ⟨us, []⟩ = pure (ps.zip us)
theorem dfn_mk {K : PySem.W.Frag} {h : Heap} {mg : Str → Option Value} (X : K.In h) (G : h.Ns mainGlobals mg) {x : Str} {st : Stmt} {ps : List Str} {f : Addr} {od an : Option Addr} {sl : Array (Option Value)} {oc kV dc pm cd ct : Value}
    (a : PySem.W.nsIn K mainGlobals x = some (some (.ref f))) (l : K.lookup f = some ⟨oc, od, .func (PySem.W.fnOf x x (defArgs st) (defBody st) (defScope st) .none kV dc pm an cd ct), sl⟩) (c : PySem.W.codeIn K cd x = true) (k : PySem.W.keepIn K (.ref f) = true) (b : BD x x st ps) : Dfn K mg x st ps := by
  have F := fun_mk (st := st) l c k
  exact ⟨f, _, F, PySem.W.mg_of X G a, F.binds b⟩
theorem mtd_mk {K : PySem.W.Frag} {C : Addr} {m qual : Str} {st : Stmt} {ps : List Str} {f : Addr} {od an : Option Addr} {sl : Array (Option Value)} {oc kV dc pm cd ct : Value}
    (a : PySem.W.findIn K (.ref C) m = some (some (.ref f))) (i : PySem.W.isFn K (.ref f) = true) (l : K.lookup f = some ⟨oc, od, .func (PySem.W.fnOf m qual (defArgs st) (defBody st) (defScope st) .none kV dc pm an cd ct), sl⟩) (c : PySem.W.codeIn K cd qual = true) (k : PySem.W.keepIn K (.ref f) = true) (b : BD m qual st ps) : Mtd K C m qual st ps := by
  have F := fun_mk (st := st) l c k
  exact ⟨f, _, F, ⟨a, i, k⟩, F.binds b⟩
theorem ini_mk {K : PySem.W.Frag} {C : Addr} {qual : Str} {st : Stmt} {ps : List Str} {f : Addr} {od an : Option Addr} {sl : Array (Option Value)} {oc kV dc pm cd ct : Value}
    (mk : PySem.W.makesIn K C = true) (a : PySem.W.findIn K (.ref C) "__init__" = some (some (.ref f))) (i : PySem.W.isFn K (.ref f) = true) (kc : PySem.W.keepIn K (.ref C) = true) (l : K.lookup f = some ⟨oc, od, .func (PySem.W.fnOf "__init__" qual (defArgs st) (defBody st) (defScope st) .none kV dc pm an cd ct), sl⟩) (c : PySem.W.codeIn K cd qual = true) (k : PySem.W.keepIn K (.ref f) = true) (b : BD "__init__" qual st ps) : Ini K C qual st ps := by
  have F := fun_mk (st := st) l c k
  exact ⟨f, _, F, ⟨mk, a, i, kc⟩, F.binds b⟩
theorem cls_mk {K : PySem.W.Frag} {C : Addr} (pg : PySem.W.plainGet K C Str.empty = true) (hd : PySem.W.hasDictIn K C = true) (po : PySem.W.plainOver K C = true) (sa : PySem.W.findIn K (.ref C) "__setattr__" = some (some (.builtin "object.__setattr__"))) : Cls K C := ⟨pg, hd, po, sa⟩
theorem exm_own {K : PySem.W.Frag} {S : Addr} (h1 : PySem.W.subIn K (.ref S) (.type "BaseException") = some true) (h2 : PySem.W.isClsIn K S = true) (h3 : PySem.W.typeIn K (.ref S) = some (.type "type")) (h4 : PySem.W.subIn K (.ref S) (.ref S) = some true) :
    PySem.W.exmOne K (.ref S) (.ref S) = some true := by
  have p1 : (PySem.W.subIn K (.ref S) (.type "BaseException") == some true) = true := by rw [h1] <;> rfl
  have p2 : ((PySem.W.clsIn K S).isSome && PySem.W.typeIn K (.ref S) == some (.type "type")) = true := by
    have q2 : (PySem.W.clsIn K S).isSome = true := h2
    rw [q2, h3] <;> rfl
  show (if (PySem.W.subIn K (.ref S) (.type "BaseException") == some true) = true then (if ((PySem.W.clsIn K S).isSome && PySem.W.typeIn K (.ref S) == some (.type "type")) = true then PySem.W.subIn K (.ref S) (.ref S) else none) else none) = some true
  rw [if_pos p1, if_pos p2]
  exact h4
theorem bd_note_numbers : BD "note_numbers" "note_numbers" s_note_numbers ["told", "seen"] := fun _ _ _ _ _ _ us hl => match us, hl with | [_, _], _ => rfl
theorem bd_numbers : BD "numbers" "numbers" s_numbers ["told"] := fun _ _ _ _ _ _ us hl => match us, hl with | [_], _ => rfl
theorem bd_note_tails : BD "note_tails" "note_tails" s_note_tails ["told", "seen"] := fun _ _ _ _ _ _ us hl => match us, hl with | [_, _], _ => rfl
theorem bd_filled : BD "filled" "filled" s_filled ["told", "filling"] := fun _ _ _ _ _ _ us hl => match us, hl with | [_, _], _ => rfl
theorem bd_filled_row : BD "filled_row" "filled_row" s_filled_row ["row", "filling"] := fun _ _ _ _ _ _ us hl => match us, hl with | [_, _], _ => rfl
theorem bd_looked_up : BD "looked_up" "looked_up" s_looked_up ["wants", "told"] := fun _ _ _ _ _ _ us hl => match us, hl with | [_, _], _ => rfl
theorem bd_laid_open : BD "laid_open" "laid_open" s_laid_open ["wants", "row"] := fun _ _ _ _ _ _ us hl => match us, hl with | [_, _], _ => rfl
theorem bd_less_those : BD "less_those" "less_those" s_less_those ["fields", "others"] := fun _ _ _ _ _ _ us hl => match us, hl with | [_, _], _ => rfl
theorem bd_weigh : BD "weigh" "weigh" s_weigh ["wants", "told", "barred"] := fun _ _ _ _ _ _ us hl => match us, hl with | [_, _, _], _ => rfl
theorem bd_fill_kind : BD "fill_kind" "fill_kind" s_fill_kind ["wants", "number", "told"] := fun _ _ _ _ _ _ us hl => match us, hl with | [_, _, _], _ => rfl
theorem bd_fill_row : BD "fill_row" "fill_row" s_fill_row ["wants", "number", "fields", "tail"] := fun _ _ _ _ _ _ us hl => match us, hl with | [_, _, _, _], _ => rfl
theorem bd_label_of : BD "label_of" "label_of" s_label_of ["field"] := fun _ _ _ _ _ _ us hl => match us, hl with | [_], _ => rfl
theorem bd_meet_tails : BD "meet_tails" "meet_tails" s_meet_tails ["wants", "left", "tail", "right", "rest"] := fun _ _ _ _ _ _ us hl => match us, hl with | [_, _, _, _, _], _ => rfl
theorem bd_meet_rows : BD "meet_rows" "meet_rows" s_meet_rows ["wants", "one", "other", "waiting"] := fun _ _ _ _ _ _ us hl => match us, hl with | [_, _, _, _], _ => rfl
theorem bd_meet : BD "meet" "meet" s_meet ["wants", "one", "other", "waiting"] := fun _ _ _ _ _ _ us hl => match us, hl with | [_, _, _, _], _ => rfl
theorem bd_make_same : BD "make_same" "make_same" s_make_same ["wants", "one", "other"] := fun _ _ _ _ _ _ us hl => match us, hl with | [_, _, _], _ => rfl
theorem bd_settled_row : BD "settled_row" "settled_row" s_settled_row ["wants", "row"] := fun _ _ _ _ _ _ us hl => match us, hl with | [_, _], _ => rfl
theorem bd_settled : BD "settled" "settled" s_settled ["wants", "told"] := fun _ _ _ _ _ _ us hl => match us, hl with | [_, _], _ => rfl
theorem bd_begun : BD "begun" "begun" s_begun ["kinds", "lacks"] := fun _ _ _ _ _ _ us hl => match us, hl with | [_, _], _ => rfl
theorem bd_solved : BD "solved" "solved" s_solved ["pairs", "lacks"] := fun _ _ _ _ _ _ us hl => match us, hl with | [_, _], _ => rfl
theorem bd_open_row : BD "open_row" "open_row" s_open_row ["number"] := fun _ _ _ _ _ _ us hl => match us, hl with | [_], _ => rfl
theorem bd_row_with : BD "row_with" "row_with" s_row_with ["label", "held", "number"] := fun _ _ _ _ _ _ us hl => match us, hl with | [_, _, _], _ => rfl
theorem bd_with_name : BD "with_name" "with_name" s_with_name ["names", "name", "held"] := fun _ _ _ _ _ _ us hl => match us, hl with | [_, _, _], _ => rfl
theorem bd_anew : BD "anew" "anew" s_anew ["finder", "scheme"] := fun _ _ _ _ _ _ us hl => match us, hl with | [_, _], _ => rfl
theorem bd_wants_of_name : BD "wants_of_name" "wants_of_name" s_won ["finder", "held", "name", "names"] := fun _ _ _ _ _ _ us hl => match us, hl with | [_, _, _, _], _ => rfl
theorem bd_wants_of_record : BD "wants_of_record" "wants_of_record" s_wor ["finder", "held", "told", "inner"] := fun _ _ _ _ _ _ us hl => match us, hl with | [_, _, _, _], _ => rfl
theorem bd_wants_of_plain : BD "wants_of_plain" "wants_of_plain" s_wop ["held", "told", "inner"] := fun _ _ _ _ _ _ us hl => match us, hl with | [_, _, _], _ => rfl
theorem bd_wants_of : BD "wants_of" "wants_of" s_wants_of ["finder", "held", "told", "inner"] := fun _ _ _ _ _ _ us hl => match us, hl with | [_, _, _, _], _ => rfl
theorem bd_find_fn : BD "find_fn" "find_fn" s_find_fn ["finder", "spot", "told", "names"] := fun _ _ _ _ _ _ us hl => match us, hl with | [_, _, _, _], _ => rfl
theorem bd_find : BD "find" "find" s_find ["finder", "told", "names"] := fun _ _ _ _ _ _ us hl => match us, hl with | [_, _, _], _ => rfl
theorem bd_looked_through : BD "looked_through" "looked_through" s_looked_through ["one", "known"] := fun _ _ _ _ _ _ us hl => match us, hl with | [_, _], _ => rfl
theorem bd_all_spots : BD "all_spots" "all_spots" s_all_spots ["finder"] := fun _ _ _ _ _ _ us hl => match us, hl with | [_], _ => rfl
theorem bd_solved_places : BD "solved_places" "solved_places" s_solved_places ["finder", "chosen"] := fun _ _ _ _ _ _ us hl => match us, hl with | [_, _], _ => rfl
theorem bd_does_hold : BD "does_hold" "does_hold" s_does_hold ["finder", "chosen"] := fun _ _ _ _ _ _ us hl => match us, hl with | [_, _], _ => rfl
theorem bd_kinds_found : BD "kinds_found" "kinds_found" s_kinds_found ["finder"] := fun _ _ _ _ _ _ us hl => match us, hl with | [_], _ => rfl
theorem bd_named : BD "named" "named" s_named ["told", "lacks"] := fun _ _ _ _ _ _ us hl => match us, hl with | [_, _], _ => rfl
theorem bd_least_clash : BD "least_clash" "least_clash" s_least_clash ["finder"] := fun _ _ _ _ _ _ us hl => match us, hl with | [_], _ => rfl
theorem bd_known_above : BD "known_above" "known_above" s_known_above ["program", "many"] := fun _ _ _ _ _ _ us hl => match us, hl with | [_, _], _ => rfl
theorem bd_schemes : BD "schemes" "schemes" s_schemes ["program"] := fun _ _ _ _ _ _ us hl => match us, hl with | [_], _ => rfl
theorem bd_hold : BD "hold" "hold" s_hold ["program", "k", "chosen"] := fun _ _ _ _ _ _ us hl => match us, hl with | [_, _, _], _ => rfl
theorem bd_clash : BD "clash" "clash" s_clash ["program"] := fun _ _ _ _ _ _ us hl => match us, hl with | [_], _ => rfl
theorem bd__law_mixed : BD "_law_mixed" "_law_mixed" s_mixed ["_law_cell", "_law_k"] := fun _ _ _ _ _ _ us hl => match us, hl with | [_, _], _ => rfl
theorem bd__law_labels : BD "_law_labels" "_law_labels" s_labels ["_law_cell"] := fun _ _ _ _ _ _ us hl => match us, hl with | [_], _ => rfl
theorem bd__law_record : BD "_law_record" "_law_record" s_record ["_law_told_of", "_law_labels_here", "_law_start"] := fun _ _ _ _ _ _ us hl => match us, hl with | [_, _, _], _ => rfl
theorem bd__law_handed : BD "_law_handed" "_law_handed" s_handed ["_law_cells", "_law_labels_here"] := fun _ _ _ _ _ _ us hl => match us, hl with | [_, _], _ => rfl
theorem bd__law_sized : BD "_law_sized" "_law_sized" s_sized ["_law_told", "_law_at", "_law_kept", "_law_forced"] := fun _ _ _ _ _ _ us hl => match us, hl with | [_, _, _, _], _ => rfl
theorem bd__law_many : BD "_law_many" "_law_many" s_many ["_law_told", "_law_kept"] := fun _ _ _ _ _ _ us hl => match us, hl with | [_, _], _ => rfl
theorem bd__law_stay : BD "_law_stay" "_law_stay" s_stay ["_law_told", "_law_many_here"] := fun _ _ _ _ _ _ us hl => match us, hl with | [_, _], _ => rfl
theorem bd__law_refused : BD "_law_refused" "_law_refused" s_refused ["_law_program"] := fun _ _ _ _ _ _ us hl => match us, hl with | [_], _ => rfl
theorem bd__law_size : BD "_law_size" "_law_size" s_size ["_law_told"] := fun _ _ _ _ _ _ us hl => match us, hl with | [_], _ => rfl
theorem bd__law_right : BD "_law_right" "_law_right" s_right ["_law_cells", "_law_labels_here"] := fun _ _ _ _ _ _ us hl => match us, hl with | [_, _], _ => rfl
theorem bm_must_lack : BD "must_lack" "Wants.must_lack" s_must_lack ["self", "tail", "labels"] := fun _ _ _ _ _ _ us hl => match us, hl with | [_, _, _], _ => rfl
theorem bm_lacked : BD "lacked" "Wants.lacked" s_lacked ["self", "tail"] := fun _ _ _ _ _ _ us hl => match us, hl with | [_, _], _ => rfl
theorem bm_made_number : BD "made_number" "Finder.made_number" s_made_number ["self"] := fun _ _ _ _ _ _ us hl => match us, hl with | [_], _ => rfl
theorem bm_made_kind : BD "made_kind" "Finder.made_kind" s_made_kind ["self"] := fun _ _ _ _ _ _ us hl => match us, hl with | [_], _ => rfl
theorem bm_begun_spot : BD "begun_spot" "Finder.begun_spot" s_begun_spot ["self"] := fun _ _ _ _ _ _ us hl => match us, hl with | [_], _ => rfl
theorem bi_Wants : BD "__init__" "Wants.__init__" s_wants ["self"] := fun _ _ _ _ _ _ us hl => match us, hl with | [_], _ => rfl
theorem bi_Finder : BD "__init__" "Finder.__init__" s_finder ["self", "known", "own"] := fun _ _ _ _ _ _ us hl => match us, hl with | [_, _, _], _ => rfl
theorem all_mk {P : Program} {w : World} {K : PySem.W.Frag} {h : Heap} {mg : Str → Option Value} {fa CW CF CN aN fL : Addr} (X : K.In h) (G : h.Ns mainGlobals mg) (hfa : mg "law" = some (.ref fa))
    {tM tkN : Tok} {oN : Obj} {itsN : Array Value} {nN : Nat} {od an : Option Addr} {sl : Array (Option Value)} {oc kV dc pm cd ct : Value}
    (a_CW : PySem.W.nsIn K mainGlobals "Wants" = some (some (.ref CW)))
    (a_CF : PySem.W.nsIn K mainGlobals "Finder" = some (some (.ref CF)))
    (a_CN : PySem.W.nsIn K mainGlobals "NoKind" = some (some (.ref CN)))
    (z_len : PySem.W.nsIn K mainGlobals "len" = some none)
    (z_list : PySem.W.nsIn K mainGlobals "list" = some none)
    (z_dict : PySem.W.nsIn K mainGlobals "dict" = some none)
    (z_tuple : PySem.W.nsIn K mainGlobals "tuple" = some none)
    (z_sorted : PySem.W.nsIn K mainGlobals "sorted" = some none)
    (z_range : PySem.W.nsIn K mainGlobals "range" = some none)
    (z_reversed : PySem.W.nsIn K mainGlobals "reversed" = some none)
    (z_enumerate : PySem.W.nsIn K mainGlobals "enumerate" = some none)
    (z_isinstance : PySem.W.nsIn K mainGlobals "isinstance" = some none)
    (z_max : PySem.W.nsIn K mainGlobals "max" = some none)
    (z_min : PySem.W.nsIn K mainGlobals "min" = some none)
    (z_sum : PySem.W.nsIn K mainGlobals "sum" = some none)
    (z_int : PySem.W.nsIn K mainGlobals "int" = some none)
    (a_M : PySem.W.nsIn K mainGlobals "MOST" = some (some (.int 200 tM)))
    (a_N : PySem.W.nsIn K mainGlobals "NUM" = some (some (.ref aN)))
    (l_N : K.lookup aN = some oN)
    (t_N : oN.cls = .type "tuple")
    (d_N : oN.data = .seq itsN nN)
    (s_N : itsN.toList = [.str "num" tkN])
    (cl_CW : Cls K CW)
    (cl_CF : Cls K CF)
    (n_CW_known : PySem.W.findIn K (.ref CW) "known" = some none)
    (n_CW_lacking : PySem.W.findIn K (.ref CW) "lacking" = some none)
    (n_CW_fresh : PySem.W.findIn K (.ref CW) "fresh" = some none)
    (n_CF_known : PySem.W.findIn K (.ref CF) "known" = some none)
    (n_CF_own : PySem.W.findIn K (.ref CF) "own" = some none)
    (n_CF_fresh : PySem.W.findIn K (.ref CF) "fresh" = some none)
    (n_CF_spots : PySem.W.findIn K (.ref CF) "spots" = some none)
    (n_CF_asks : PySem.W.findIn K (.ref CF) "asks" = some none)
    (xF : PySem.W.excIn K CN [.type "ValueError", .type "Exception", .type "BaseException", .type "object"] "ValueError.__new__" = true)
    (kF : PySem.W.keepIn K (.ref CN) = true)
    (bF : PySem.W.subIn K (.ref CN) (.type "BaseException") = some true)
    (tF : PySem.W.typeIn K (.ref CN) = some (.type "type"))
    (iF : PySem.W.isClsIn K CN = true)
    (sF : PySem.W.subIn K (.ref CN) (.ref CN) = some true)
    (d_note_numbers : Dfn K mg "note_numbers" s_note_numbers ["told", "seen"])
    (d_numbers : Dfn K mg "numbers" s_numbers ["told"])
    (d_note_tails : Dfn K mg "note_tails" s_note_tails ["told", "seen"])
    (d_filled : Dfn K mg "filled" s_filled ["told", "filling"])
    (d_filled_row : Dfn K mg "filled_row" s_filled_row ["row", "filling"])
    (d_looked_up : Dfn K mg "looked_up" s_looked_up ["wants", "told"])
    (d_laid_open : Dfn K mg "laid_open" s_laid_open ["wants", "row"])
    (d_less_those : Dfn K mg "less_those" s_less_those ["fields", "others"])
    (d_weigh : Dfn K mg "weigh" s_weigh ["wants", "told", "barred"])
    (d_fill_kind : Dfn K mg "fill_kind" s_fill_kind ["wants", "number", "told"])
    (d_fill_row : Dfn K mg "fill_row" s_fill_row ["wants", "number", "fields", "tail"])
    (d_label_of : Dfn K mg "label_of" s_label_of ["field"])
    (d_meet_tails : Dfn K mg "meet_tails" s_meet_tails ["wants", "left", "tail", "right", "rest"])
    (d_meet_rows : Dfn K mg "meet_rows" s_meet_rows ["wants", "one", "other", "waiting"])
    (d_meet : Dfn K mg "meet" s_meet ["wants", "one", "other", "waiting"])
    (d_make_same : Dfn K mg "make_same" s_make_same ["wants", "one", "other"])
    (d_settled_row : Dfn K mg "settled_row" s_settled_row ["wants", "row"])
    (d_settled : Dfn K mg "settled" s_settled ["wants", "told"])
    (d_begun : Dfn K mg "begun" s_begun ["kinds", "lacks"])
    (d_solved : Dfn K mg "solved" s_solved ["pairs", "lacks"])
    (d_open_row : Dfn K mg "open_row" s_open_row ["number"])
    (d_row_with : Dfn K mg "row_with" s_row_with ["label", "held", "number"])
    (d_with_name : Dfn K mg "with_name" s_with_name ["names", "name", "held"])
    (d_anew : Dfn K mg "anew" s_anew ["finder", "scheme"])
    (d_wants_of_name : Dfn K mg "wants_of_name" s_won ["finder", "held", "name", "names"])
    (d_wants_of_record : Dfn K mg "wants_of_record" s_wor ["finder", "held", "told", "inner"])
    (d_wants_of_plain : Dfn K mg "wants_of_plain" s_wop ["held", "told", "inner"])
    (d_wants_of : Dfn K mg "wants_of" s_wants_of ["finder", "held", "told", "inner"])
    (d_find_fn : Dfn K mg "find_fn" s_find_fn ["finder", "spot", "told", "names"])
    (d_find : Dfn K mg "find" s_find ["finder", "told", "names"])
    (d_looked_through : Dfn K mg "looked_through" s_looked_through ["one", "known"])
    (d_all_spots : Dfn K mg "all_spots" s_all_spots ["finder"])
    (d_solved_places : Dfn K mg "solved_places" s_solved_places ["finder", "chosen"])
    (d_does_hold : Dfn K mg "does_hold" s_does_hold ["finder", "chosen"])
    (d_kinds_found : Dfn K mg "kinds_found" s_kinds_found ["finder"])
    (d_named : Dfn K mg "named" s_named ["told", "lacks"])
    (d_least_clash : Dfn K mg "least_clash" s_least_clash ["finder"])
    (d_known_above : Dfn K mg "known_above" s_known_above ["program", "many"])
    (d_schemes : Dfn K mg "schemes" s_schemes ["program"])
    (d_hold : Dfn K mg "hold" s_hold ["program", "k", "chosen"])
    (d_clash : Dfn K mg "clash" s_clash ["program"])
    (d__law_mixed : Dfn K mg "_law_mixed" s_mixed ["_law_cell", "_law_k"])
    (d__law_labels : Dfn K mg "_law_labels" s_labels ["_law_cell"])
    (d__law_record : Dfn K mg "_law_record" s_record ["_law_told_of", "_law_labels_here", "_law_start"])
    (d__law_handed : Dfn K mg "_law_handed" s_handed ["_law_cells", "_law_labels_here"])
    (d__law_sized : Dfn K mg "_law_sized" s_sized ["_law_told", "_law_at", "_law_kept", "_law_forced"])
    (d__law_many : Dfn K mg "_law_many" s_many ["_law_told", "_law_kept"])
    (d__law_stay : Dfn K mg "_law_stay" s_stay ["_law_told", "_law_many_here"])
    (d__law_refused : Dfn K mg "_law_refused" s_refused ["_law_program"])
    (d__law_size : Dfn K mg "_law_size" s_size ["_law_told"])
    (d__law_right : Dfn K mg "_law_right" s_right ["_law_cells", "_law_labels_here"])
    (m_must_lack : Mtd K CW "must_lack" "Wants.must_lack" s_must_lack ["self", "tail", "labels"])
    (m_lacked : Mtd K CW "lacked" "Wants.lacked" s_lacked ["self", "tail"])
    (m_made_number : Mtd K CF "made_number" "Finder.made_number" s_made_number ["self"])
    (m_made_kind : Mtd K CF "made_kind" "Finder.made_kind" s_made_kind ["self"])
    (m_begun_spot : Mtd K CF "begun_spot" "Finder.begun_spot" s_begun_spot ["self"])
    (i_Wants : Ini K CW "Wants.__init__" s_wants ["self"])
    (i_Finder : Ini K CF "Finder.__init__" s_finder ["self", "known", "own"])
    (aL : PySem.W.nsIn K mainGlobals "law" = some (some (.ref fL)))
    (lL : K.lookup fL = some ⟨oc, od, .func (PySem.W.fnOf "law" "law" (defArgs s_law) (defBody s_law) (defScope s_law) .none kV dc pm an cd ct), sl⟩)
    (cL : PySem.W.codeIn K cd "law" = true)
    (kL : PySem.W.keepIn K (.ref fL) = true)
    : ∃ fd : FuncData, (∀ (s : Shared) (u : Value), BindsTo s fd ⟨[u], []⟩ [("_law_script", u)]) ∧ ∀ base : Heap, K.In base → base.Ns mainGlobals mg → FnOk P w K mg base CX0 58 fa fd ["_law_script"] (sp_law K) := by
  have e := hfa.symm.trans (PySem.W.mg_of X G aL)
  cases e
  have T : Txt K mg := ⟨PySem.W.mg_none_of X G z_len, PySem.W.mg_none_of X G z_list, PySem.W.mg_none_of X G z_dict, PySem.W.mg_none_of X G z_tuple, PySem.W.mg_none_of X G z_sorted, PySem.W.mg_none_of X G z_range, PySem.W.mg_none_of X G z_reversed, PySem.W.mg_none_of X G z_enumerate, PySem.W.mg_none_of X G z_isinstance, PySem.W.mg_none_of X G z_max, PySem.W.mg_none_of X G z_min, PySem.W.mg_none_of X G z_sum, PySem.W.mg_none_of X G z_int, ⟨tM, PySem.W.mg_of X G a_M⟩⟩
  have TW : TW K mg CW := ⟨PySem.W.mg_of X G a_CW, cl_CW, n_CW_known, n_CW_lacking, n_CW_fresh⟩
  have TF : TF K mg CF := ⟨PySem.W.mg_of X G a_CF, cl_CF, n_CF_known, n_CF_own, n_CF_fresh, n_CF_spots, n_CF_asks⟩
  have TN : TN K mg CN := ⟨PySem.W.mg_of X G a_CN, xF, kF, bF, tF, exm_own bF iF tF sF⟩
  have TNm : TNm K mg := ⟨aN, PySem.W.mg_of X G a_N, fun H => .inr ⟨oN, itsN, nN, l_N, t_N, d_N, (by rw [← Array.length_toList, s_N]; show 1 ≤ sizeLine; decide), (by rw [s_N]; exact .cons ⟨_, rfl⟩ .nil)⟩⟩
  have FL := fun_mk (st := s_law) lL cL kL
  refine ⟨PySem.W.fnOf "law" "law" (defArgs s_law) (defBody s_law) (defScope s_law) .none kV dc pm an cd ct, fun s u => .of_eq rfl, fun base _ _ => ?_⟩
  have c_note_numbers4 := ok_note_numbers (P := P) (w := w) (base := base) d_note_numbers 4
  have c_numbers := ok_numbers (P := P) (w := w) (base := base) d_numbers T c_note_numbers4
  have c_note_tails := ok_note_tails (P := P) (w := w) (base := base) d_note_tails 4
  have c_filled := ok_filled (P := P) (w := w) (base := base) d_filled d_filled_row T 4
  have c_must_lack := ok_must_lack (P := P) (w := w) (base := base) m_must_lack TW
  have c_lacked := ok_lacked (P := P) (w := w) (base := base) m_lacked T TW
  have c_looked_up := ok_looked_up (P := P) (w := w) (base := base) d_looked_up TW
  have c_laid_open := ok_laid_open (P := P) (w := w) (base := base) d_laid_open T TW
  have c_less_those := ok_less_those (P := P) (w := w) (base := base) d_less_those
  have c_weigh := ok_weigh (P := P) (wd := w) (base := base) d_weigh T TN c_looked_up c_laid_open
  have c_fill_kind := ok_fill_kind (P := P) (wd := w) (base := base) d_fill_kind TW c_weigh
  have c_fill_row := ok_fill_row (P := P) (wd := w) (base := base) d_fill_row d_label_of T TW c_weigh c_lacked c_must_lack
  have c_meet_tails := ok_meet_tails (P := P) (wd := w) (base := base) d_meet_tails T c_fill_row
  have c_meet_rows := ok_meet_rows (P := P) (wd := w) (base := base) d_meet_rows T c_laid_open c_less_those c_meet_tails
  have c_meet := ok_meet (P := P) (wd := w) (base := base) d_meet c_fill_kind c_meet_rows
  have c_make_same := ok_make_same (P := P) (wd := w) (base := base) d_make_same T c_looked_up c_meet
  have c_settled := ok_settled (P := P) (wd := w) (base := base) d_settled d_settled_row T c_looked_up c_laid_open 6
  have c_settled_row := no_settled_row (P := P) (wd := w) (base := base) d_settled_row T c_laid_open c_settled
  have c_wants := ok_wants (P := P) (wd := w) (base := base) i_Wants TW
  have c_begun := ok_begun (P := P) (wd := w) (base := base) d_begun T TW c_wants c_note_numbers4 c_note_tails c_must_lack
  have c_solved := ok_solved (P := P) (wd := w) (base := base) d_solved T TW TN c_begun c_make_same c_weigh c_settled c_settled_row
  have c_open_row := ok_open_row (P := P) (wd := w) (base := base) d_open_row
  have c_row_with := ok_row_with (P := P) (wd := w) (base := base) d_row_with
  have c_made_number := ok_made_number (P := P) (wd := w) (base := base) m_made_number TF
  have c_made_kind := ok_made_kind (P := P) (wd := w) (base := base) m_made_kind TF c_made_number
  have c_begun_spot := ok_begun_spot (P := P) (wd := w) (base := base) m_begun_spot T TF c_made_kind
  have c_with_name := ok_with_name (P := P) (wd := w) (base := base) d_with_name T
  have c_anew := ok_anew (P := P) (wd := w) (base := base) d_anew T TF c_note_tails c_numbers c_filled c_made_number c_made_kind c_open_row
  have c_won := ok_won (P := P) (wd := w) (base := base) d_wants_of_name T TF c_anew
  have c_wor := ok_wor (P := P) (wd := w) (base := base) d_wants_of_record TF c_made_number c_open_row c_row_with
  have c_wop := ok_wop (P := P) (wd := w) (base := base) d_wants_of_plain TNm
  have c_wants_of := ok_wants_of (P := P) (wd := w) (base := base) d_wants_of c_wor c_wop
  have c_find := ok_find (P := P) (wd := w) (base := base) d_find d_find_fn T TF c_begun_spot c_won c_wants_of c_made_kind c_with_name 14
  have c_finder := ok_finder (P := P) (wd := w) (base := base) i_Finder TF
  have c_looked_through := ok_looked_through (P := P) (wd := w) (base := base) d_looked_through TF c_finder c_find
  have c_all_spots := ok_all_spots (P := P) (wd := w) (base := base) d_all_spots T TF
  have c_filledV := ok_filledV (P := P) (wd := w) (base := base) d_filled
  have c_solved_places := ok_solved_places (P := P) (wd := w) (base := base) d_solved_places TF c_solved
  have c_does_hold := ok_does_hold (P := P) (wd := w) (base := base) d_does_hold TN c_solved_places
  have c_kinds_found := ok_kinds_found (P := P) (wd := w) (base := base) d_kinds_found TF c_solved_places c_all_spots c_filledV
  have c_named := ok_named (P := P) (wd := w) (base := base) d_named T c_note_tails c_numbers c_filled
  have c_least_clash := ok_least_clash (P := P) (wd := w) (base := base) d_least_clash T c_all_spots c_does_hold
  have c_known_above := ok_known_above (P := P) (wd := w) (base := base) d_known_above TF c_looked_through c_kinds_found c_named
  have c_schemes := ok_schemes (P := P) (wd := w) (base := base) d_schemes T c_known_above
  have c_hold := ok_hold (P := P) (wd := w) (base := base) d_hold TF c_looked_through c_does_hold c_known_above
  have c_clash := ok_clash (P := P) (wd := w) (base := base) d_clash TF c_looked_through c_kinds_found c_named c_does_hold c_all_spots c_least_clash
  have c_mixed := ok_mixed (P := P) (wd := w) (base := base) d__law_mixed
  have c_labels := ok_labels (P := P) (wd := w) (base := base) d__law_labels T c_mixed
  have c_record := ok_record (P := P) (wd := w) (base := base) d__law_record T
  have c_handed := ok_handed (P := P) (wd := w) (base := base) d__law_handed T c_record
  have c_sized := ok_sized (P := P) (wd := w) (base := base) d__law_sized T 14
  have c_many := ok_many (P := P) (wd := w) (base := base) d__law_many c_sized
  have c_stay := ok_stay (P := P) (wd := w) (base := base) d__law_stay T c_many
  have c_refused := ok_refused (P := P) (wd := w) (base := base) d__law_refused TN c_schemes
  have c_size := ok_size (P := P) (wd := w) (base := base) d__law_size T 14
  have c_right := ok_right (P := P) (wd := w) (base := base) d__law_right T c_handed c_size c_many c_clash c_schemes c_hold c_stay c_refused
  exact ok_law FL T c_mixed c_labels c_right
end Fw
open PySem PySem.W PyProof.Rows
set_option maxRecDepth 100000 in
set_option maxHeartbeats 0 in
theorem PySem.Challenge.cw_fieldrows_k37_whole_bound_of_parts_holds : PySem.Challenge.rw_fieldrows_k37_whole_bound_of_parts.Holds := by
  w_on; o_law; k_head; (case hw => w_witness2)
  k_fill
  refine L2.walk_ofK (l := PySem.Challenge.rw_fieldrows_k37_whole_bound_of_parts) (n := 63) (k := 58) (x := "_law_script") (CX := L2.CX0) (sp := Fw.sp_law) rfl (by decide) rfl ⟨rfl, by decide, by decide⟩ (fun w h Y => PySem.W.kIn_of Y) ?F (fun K H a ns hl _ hS => ⟨a, ns, rfl, hS, Nat.le_trans hl (by decide), fun _ _ => rfl⟩) (fun _ _ _ _ h => h)
  case F =>
    intro w mg fa h KX G hmg
    refine' Fw.all_mk KX G hmg ?a_CW ?a_CF ?a_CN ?z_len ?z_list ?z_dict ?z_tuple ?z_sorted ?z_range ?z_reversed ?z_enumerate ?z_isinstance ?z_max ?z_min ?z_sum ?z_int ?a_M ?a_N ?l_N ?t_N ?d_N ?s_N ?cl_CW ?cl_CF ?n_CW_known ?n_CW_lacking ?n_CW_fresh ?n_CF_known ?n_CF_own ?n_CF_fresh ?n_CF_spots ?n_CF_asks ?xF ?kF ?bF ?tF ?iF ?sF ?d_note_numbers ?d_numbers ?d_note_tails ?d_filled ?d_filled_row ?d_looked_up ?d_laid_open ?d_less_those ?d_weigh ?d_fill_kind ?d_fill_row ?d_label_of ?d_meet_tails ?d_meet_rows ?d_meet ?d_make_same ?d_settled_row ?d_settled ?d_begun ?d_solved ?d_open_row ?d_row_with ?d_with_name ?d_anew ?d_wants_of_name ?d_wants_of_record ?d_wants_of_plain ?d_wants_of ?d_find_fn ?d_find ?d_looked_through ?d_all_spots ?d_solved_places ?d_does_hold ?d_kinds_found ?d_named ?d_least_clash ?d_known_above ?d_schemes ?d_hold ?d_clash ?d__law_mixed ?d__law_labels ?d__law_record ?d__law_handed ?d__law_sized ?d__law_many ?d__law_stay ?d__law_refused ?d__law_size ?d__law_right ?m_must_lack ?m_lacked ?m_made_number ?m_made_kind ?m_begun_spot ?i_Wants ?i_Finder ?aL ?lL ?cL ?kL
    (case a_CW => k_is)
    (case a_CF => k_is)
    (case a_CN => k_is)
    (case z_len => k_is)
    (case z_list => k_is)
    (case z_dict => k_is)
    (case z_tuple => k_is)
    (case z_sorted => k_is)
    (case z_range => k_is)
    (case z_reversed => k_is)
    (case z_enumerate => k_is)
    (case z_isinstance => k_is)
    (case z_max => k_is)
    (case z_min => k_is)
    (case z_sum => k_is)
    (case z_int => k_is)
    (case a_M => k_is)
    (case a_N => k_is)
    (case l_N => k_is)
    (case t_N => first | rfl | k_is)
    (case d_N => first | rfl | k_is)
    (case s_N => first | rfl | k_is)
    (case cl_CW => refine' Fw.cls_mk ?pg ?hd ?po ?sa; (case pg => k_is); (case hd => k_is); (case po => k_is); (case sa => k_is))
    (case cl_CF => refine' Fw.cls_mk ?pg ?hd ?po ?sa; (case pg => k_is); (case hd => k_is); (case po => k_is); (case sa => k_is))
    (case n_CW_known => k_is)
    (case n_CW_lacking => k_is)
    (case n_CW_fresh => k_is)
    (case n_CF_known => k_is)
    (case n_CF_own => k_is)
    (case n_CF_fresh => k_is)
    (case n_CF_spots => k_is)
    (case n_CF_asks => k_is)
    (case xF => k_exc)
    (case kF => k_is)
    (case bF => k_is)
    (case tF => k_is)
    (case iF => k_is)
    (case sF => first | rfl | k_is)
    (case d_note_numbers => refine' Fw.dfn_mk KX G ?a ?l ?c ?k Fw.bd_note_numbers; (case a => k_is); (case l => k_is); (case c => k_is); (case k => k_is))
    (case d_numbers => refine' Fw.dfn_mk KX G ?a ?l ?c ?k Fw.bd_numbers; (case a => k_is); (case l => k_is); (case c => k_is); (case k => k_is))
    (case d_note_tails => refine' Fw.dfn_mk KX G ?a ?l ?c ?k Fw.bd_note_tails; (case a => k_is); (case l => k_is); (case c => k_is); (case k => k_is))
    (case d_filled => refine' Fw.dfn_mk KX G ?a ?l ?c ?k Fw.bd_filled; (case a => k_is); (case l => k_is); (case c => k_is); (case k => k_is))
    (case d_filled_row => refine' Fw.dfn_mk KX G ?a ?l ?c ?k Fw.bd_filled_row; (case a => k_is); (case l => k_is); (case c => k_is); (case k => k_is))
    (case d_looked_up => refine' Fw.dfn_mk KX G ?a ?l ?c ?k Fw.bd_looked_up; (case a => k_is); (case l => k_is); (case c => k_is); (case k => k_is))
    (case d_laid_open => refine' Fw.dfn_mk KX G ?a ?l ?c ?k Fw.bd_laid_open; (case a => k_is); (case l => k_is); (case c => k_is); (case k => k_is))
    (case d_less_those => refine' Fw.dfn_mk KX G ?a ?l ?c ?k Fw.bd_less_those; (case a => k_is); (case l => k_is); (case c => k_is); (case k => k_is))
    (case d_weigh => refine' Fw.dfn_mk KX G ?a ?l ?c ?k Fw.bd_weigh; (case a => k_is); (case l => k_is); (case c => k_is); (case k => k_is))
    (case d_fill_kind => refine' Fw.dfn_mk KX G ?a ?l ?c ?k Fw.bd_fill_kind; (case a => k_is); (case l => k_is); (case c => k_is); (case k => k_is))
    (case d_fill_row => refine' Fw.dfn_mk KX G ?a ?l ?c ?k Fw.bd_fill_row; (case a => k_is); (case l => k_is); (case c => k_is); (case k => k_is))
    (case d_label_of => refine' Fw.dfn_mk KX G ?a ?l ?c ?k Fw.bd_label_of; (case a => k_is); (case l => k_is); (case c => k_is); (case k => k_is))
    (case d_meet_tails => refine' Fw.dfn_mk KX G ?a ?l ?c ?k Fw.bd_meet_tails; (case a => k_is); (case l => k_is); (case c => k_is); (case k => k_is))
    (case d_meet_rows => refine' Fw.dfn_mk KX G ?a ?l ?c ?k Fw.bd_meet_rows; (case a => k_is); (case l => k_is); (case c => k_is); (case k => k_is))
    (case d_meet => refine' Fw.dfn_mk KX G ?a ?l ?c ?k Fw.bd_meet; (case a => k_is); (case l => k_is); (case c => k_is); (case k => k_is))
    (case d_make_same => refine' Fw.dfn_mk KX G ?a ?l ?c ?k Fw.bd_make_same; (case a => k_is); (case l => k_is); (case c => k_is); (case k => k_is))
    (case d_settled_row => refine' Fw.dfn_mk KX G ?a ?l ?c ?k Fw.bd_settled_row; (case a => k_is); (case l => k_is); (case c => k_is); (case k => k_is))
    (case d_settled => refine' Fw.dfn_mk KX G ?a ?l ?c ?k Fw.bd_settled; (case a => k_is); (case l => k_is); (case c => k_is); (case k => k_is))
    (case d_begun => refine' Fw.dfn_mk KX G ?a ?l ?c ?k Fw.bd_begun; (case a => k_is); (case l => k_is); (case c => k_is); (case k => k_is))
    (case d_solved => refine' Fw.dfn_mk KX G ?a ?l ?c ?k Fw.bd_solved; (case a => k_is); (case l => k_is); (case c => k_is); (case k => k_is))
    (case d_open_row => refine' Fw.dfn_mk KX G ?a ?l ?c ?k Fw.bd_open_row; (case a => k_is); (case l => k_is); (case c => k_is); (case k => k_is))
    (case d_row_with => refine' Fw.dfn_mk KX G ?a ?l ?c ?k Fw.bd_row_with; (case a => k_is); (case l => k_is); (case c => k_is); (case k => k_is))
    (case d_with_name => refine' Fw.dfn_mk KX G ?a ?l ?c ?k Fw.bd_with_name; (case a => k_is); (case l => k_is); (case c => k_is); (case k => k_is))
    (case d_anew => refine' Fw.dfn_mk KX G ?a ?l ?c ?k Fw.bd_anew; (case a => k_is); (case l => k_is); (case c => k_is); (case k => k_is))
    (case d_wants_of_name => refine' Fw.dfn_mk KX G ?a ?l ?c ?k Fw.bd_wants_of_name; (case a => k_is); (case l => k_is); (case c => k_is); (case k => k_is))
    (case d_wants_of_record => refine' Fw.dfn_mk KX G ?a ?l ?c ?k Fw.bd_wants_of_record; (case a => k_is); (case l => k_is); (case c => k_is); (case k => k_is))
    (case d_wants_of_plain => refine' Fw.dfn_mk KX G ?a ?l ?c ?k Fw.bd_wants_of_plain; (case a => k_is); (case l => k_is); (case c => k_is); (case k => k_is))
    (case d_wants_of => refine' Fw.dfn_mk KX G ?a ?l ?c ?k Fw.bd_wants_of; (case a => k_is); (case l => k_is); (case c => k_is); (case k => k_is))
    (case d_find_fn => refine' Fw.dfn_mk KX G ?a ?l ?c ?k Fw.bd_find_fn; (case a => k_is); (case l => k_is); (case c => k_is); (case k => k_is))
    (case d_find => refine' Fw.dfn_mk KX G ?a ?l ?c ?k Fw.bd_find; (case a => k_is); (case l => k_is); (case c => k_is); (case k => k_is))
    (case d_looked_through => refine' Fw.dfn_mk KX G ?a ?l ?c ?k Fw.bd_looked_through; (case a => k_is); (case l => k_is); (case c => k_is); (case k => k_is))
    (case d_all_spots => refine' Fw.dfn_mk KX G ?a ?l ?c ?k Fw.bd_all_spots; (case a => k_is); (case l => k_is); (case c => k_is); (case k => k_is))
    (case d_solved_places => refine' Fw.dfn_mk KX G ?a ?l ?c ?k Fw.bd_solved_places; (case a => k_is); (case l => k_is); (case c => k_is); (case k => k_is))
    (case d_does_hold => refine' Fw.dfn_mk KX G ?a ?l ?c ?k Fw.bd_does_hold; (case a => k_is); (case l => k_is); (case c => k_is); (case k => k_is))
    (case d_kinds_found => refine' Fw.dfn_mk KX G ?a ?l ?c ?k Fw.bd_kinds_found; (case a => k_is); (case l => k_is); (case c => k_is); (case k => k_is))
    (case d_named => refine' Fw.dfn_mk KX G ?a ?l ?c ?k Fw.bd_named; (case a => k_is); (case l => k_is); (case c => k_is); (case k => k_is))
    (case d_least_clash => refine' Fw.dfn_mk KX G ?a ?l ?c ?k Fw.bd_least_clash; (case a => k_is); (case l => k_is); (case c => k_is); (case k => k_is))
    (case d_known_above => refine' Fw.dfn_mk KX G ?a ?l ?c ?k Fw.bd_known_above; (case a => k_is); (case l => k_is); (case c => k_is); (case k => k_is))
    (case d_schemes => refine' Fw.dfn_mk KX G ?a ?l ?c ?k Fw.bd_schemes; (case a => k_is); (case l => k_is); (case c => k_is); (case k => k_is))
    (case d_hold => refine' Fw.dfn_mk KX G ?a ?l ?c ?k Fw.bd_hold; (case a => k_is); (case l => k_is); (case c => k_is); (case k => k_is))
    (case d_clash => refine' Fw.dfn_mk KX G ?a ?l ?c ?k Fw.bd_clash; (case a => k_is); (case l => k_is); (case c => k_is); (case k => k_is))
    (case d__law_mixed => refine' Fw.dfn_mk KX G ?a ?l ?c ?k Fw.bd__law_mixed; (case a => k_is); (case l => k_is); (case c => k_is); (case k => k_is))
    (case d__law_labels => refine' Fw.dfn_mk KX G ?a ?l ?c ?k Fw.bd__law_labels; (case a => k_is); (case l => k_is); (case c => k_is); (case k => k_is))
    (case d__law_record => refine' Fw.dfn_mk KX G ?a ?l ?c ?k Fw.bd__law_record; (case a => k_is); (case l => k_is); (case c => k_is); (case k => k_is))
    (case d__law_handed => refine' Fw.dfn_mk KX G ?a ?l ?c ?k Fw.bd__law_handed; (case a => k_is); (case l => k_is); (case c => k_is); (case k => k_is))
    (case d__law_sized => refine' Fw.dfn_mk KX G ?a ?l ?c ?k Fw.bd__law_sized; (case a => k_is); (case l => k_is); (case c => k_is); (case k => k_is))
    (case d__law_many => refine' Fw.dfn_mk KX G ?a ?l ?c ?k Fw.bd__law_many; (case a => k_is); (case l => k_is); (case c => k_is); (case k => k_is))
    (case d__law_stay => refine' Fw.dfn_mk KX G ?a ?l ?c ?k Fw.bd__law_stay; (case a => k_is); (case l => k_is); (case c => k_is); (case k => k_is))
    (case d__law_refused => refine' Fw.dfn_mk KX G ?a ?l ?c ?k Fw.bd__law_refused; (case a => k_is); (case l => k_is); (case c => k_is); (case k => k_is))
    (case d__law_size => refine' Fw.dfn_mk KX G ?a ?l ?c ?k Fw.bd__law_size; (case a => k_is); (case l => k_is); (case c => k_is); (case k => k_is))
    (case d__law_right => refine' Fw.dfn_mk KX G ?a ?l ?c ?k Fw.bd__law_right; (case a => k_is); (case l => k_is); (case c => k_is); (case k => k_is))
    (case m_must_lack => refine' Fw.mtd_mk ?a ?i ?l ?c ?k Fw.bm_must_lack; (case a => k_is); (case i => k_is); (case l => k_is); (case c => k_is); (case k => k_is))
    (case m_lacked => refine' Fw.mtd_mk ?a ?i ?l ?c ?k Fw.bm_lacked; (case a => k_is); (case i => k_is); (case l => k_is); (case c => k_is); (case k => k_is))
    (case m_made_number => refine' Fw.mtd_mk ?a ?i ?l ?c ?k Fw.bm_made_number; (case a => k_is); (case i => k_is); (case l => k_is); (case c => k_is); (case k => k_is))
    (case m_made_kind => refine' Fw.mtd_mk ?a ?i ?l ?c ?k Fw.bm_made_kind; (case a => k_is); (case i => k_is); (case l => k_is); (case c => k_is); (case k => k_is))
    (case m_begun_spot => refine' Fw.mtd_mk ?a ?i ?l ?c ?k Fw.bm_begun_spot; (case a => k_is); (case i => k_is); (case l => k_is); (case c => k_is); (case k => k_is))
    (case i_Wants => refine' Fw.ini_mk ?m ?a ?i ?kc ?l ?c ?k Fw.bi_Wants; (case m => k_is); (case a => k_is); (case i => k_is); (case kc => k_is); (case l => k_is); (case c => k_is); (case k => k_is))
    (case i_Finder => refine' Fw.ini_mk ?m ?a ?i ?kc ?l ?c ?k Fw.bi_Finder; (case m => k_is); (case a => k_is); (case i => k_is); (case kc => k_is); (case l => k_is); (case c => k_is); (case k => k_is))
    (case aL => k_is)
    (case lL => k_is)
    (case cL => k_is)
    (case kL => k_is)
