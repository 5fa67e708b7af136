import PyProof.Rows.All
import Wide.All
import OpenK.AllK
import Wide.FinOn
import HandS.ForMost
import HandS.Exc
import HandS.TryOnly
import HandS.ExcOwn
import HandS.WordsExc
import HandS.Evl
import HandS.IsInst
import HandS.WideBits
import HandS.Wide
import HandS.SortKw
import HandS.TupLe
import HandS.Flow
import HandS.Style
import HandS.Conv
import HandS.EndBits
import HandS.Strs
import HandS.StrMore
import HandS.Walk
import HandS.Codes
import HandS.SetFor
import HandS.ExcIs
import HandS.ExcCtx
import HandS.Hot
import PyProof.SetRoads
import KE.SortData
import KE.DataMinKey
import PySem.Challenge.RW_switchlamps_k08_texts_misread
set_option Elab.async false
set_option linter.all false
set_option maxRecDepth 100000
set_option maxHeartbeats 2000000

/-! Ground: callees bundled, readings that hold at every later heap. -/
namespace Sw
open PySem PySem.Spec PyProof.Rows L2 Evl

/-! ### callees -/
def Cal (P : Program) (w : World) (K : PySem.W.Frag) (mg : Str → Option Value) (base : Heap) (CX : CXT) (k : Nat) (x : Str) (ps : List Str) (sp : Sp) : Prop :=
  ∃ f fd, FnOk P w K mg base CX k f fd ps sp ∧ mg x = some (.ref f) ∧ PySem.W.keepIn K (.ref f) = true ∧ Binds K fd ps []
def CalM (P : Program) (w : World) (K : PySem.W.Frag) (mg : Str → Option Value) (base : Heap) (CX : CXT) (k : Nat) (C : Addr) (m : Str) (ps : List Str) (sp : Sp) : Prop :=
  ∃ f fd, FnOk P w K mg base CX k f fd ps sp ∧ Meth K C m f ∧ Binds K fd ps []
def CalK (P : Program) (w : World) (K : PySem.W.Frag) (mg : Str → Option Value) (base : Heap) (CX : CXT) (k : Nat) (C : Addr) (x : Str) (ps : List Str) (sp : Sp) : Prop :=
  ∃ f fd, FnOk P w K mg base CX k f fd ps sp ∧ Mk K C f ∧ mg x = some (.ref C) ∧ Binds K fd ps []
/-- a def of the text, where it stands -/
def Df (K : PySem.W.Frag) (mg : Str → Option Value) (x qual : Str) (st : Stmt) : Prop := ∃ f fd, Fun K x qual st f fd ∧ mg x = some (.ref f)
def DfM (K : PySem.W.Frag) (C : Addr) (x qual : Str) (st : Stmt) : Prop := ∃ f fd, Fun K x qual st f fd ∧ Meth K C x f
def DfK (K : PySem.W.Frag) (mg : Str → Option Value) (C : Addr) (c qual : Str) (st : Stmt) : Prop := ∃ f fd, Fun K "__init__" qual st f fd ∧ Mk K C f ∧ mg c = some (.ref C)
section
variable {X : Cx} {CX : CXT} {k : Nat} {x m : Str} {C : Addr} {ps : List Str} {sp : Sp} {E : XK} {e o : Expr} {es : List Expr} {t : TA} {ta : TE} {p pos apos : Pos}
theorem pe_cal (c : Cal X.prog X.w X.K X.mg X.base CX k x ps sp) (hr : Room k X.A) (hx : Passes CX X E) (ha : PA X (e :: es) t) (hg : Gl X x := by rfl)
    (hdb : (x == ("__debug__" : Str)) = false := by decide) (he : starEach (e :: es) X.env = (false, eval e X.env) :: starEach es X.env := by rfl) (hpl : (backTo pos (starEach es X.env)).any (·.1) = false := by rfl) :
    PE X (.Call (.Name x p) (e :: es) [] pos) (tCall sp [] E t) := by
  obtain ⟨f, fd, F, hm, hk, hb⟩ := c
  exact pe_call F hr hg hm hk hb .nil hx ha hdb he hpl
theorem pe_cal0 (c : Cal X.prog X.w X.K X.mg X.base CX k x ps sp) (hr : Room k X.A) (hx : Passes CX X E) (hg : Gl X x := by rfl) (hdb : (x == ("__debug__" : Str)) = false := by decide) :
    PE X (.Call (.Name x p) [] [] pos) (tCall sp [] E tNil) := by
  obtain ⟨f, fd, F, hm, hk, hb⟩ := c
  exact pe_call0 F hr hg hm hk hb .nil hx hdb
theorem pe_calM {pl : Sem Bool} (he : PE X o ta) (cl : Cls X.K C) (c : CalM X.prog X.w X.K X.mg X.base CX k C m ps sp) (hr : Room k X.A) (hx : Passes CX X E) (ha : PA X (e :: es) t)
    (hst : starEach (e :: es) X.env = (false, eval e X.env) :: starEach es X.env := by rfl) (hpl : (backTo pos (starEach es X.env)).any (·.1) = false := by rfl)
    (ht : eval (.Call (.Attribute o m apos) (e :: es) [] pos) X.env = (do
      let ov ← eval o X.env
      standAt apos.atName
      let (f, first) ← holding [ov] (getMethod ov m pl)
      callWith pos f first (backTo pos (starEach (e :: es) X.env)) (backToKw pos (keywordEach [] X.env))) := by rfl) :
    PE X (.Call (.Attribute o m apos) (e :: es) [] pos) (tMeth C m sp [] E ta t) := by
  obtain ⟨f, fd, F, hm, hb⟩ := c
  exact pe_meth he cl hm F hr hb .nil hx ha hst hpl ht
theorem pe_calM0 {pl : Sem Bool} (he : PE X o ta) (cl : Cls X.K C) (c : CalM X.prog X.w X.K X.mg X.base CX k C m ps sp) (hr : Room k X.A) (hx : Passes CX X E)
    (ht : eval (.Call (.Attribute o m apos) [] [] pos) X.env = (do
      let ov ← eval o X.env
      standAt apos.atName
      let (f, first) ← holding [ov] (getMethod ov m pl)
      callWith pos f first (backTo pos (starEach [] X.env)) (backToKw pos (keywordEach [] X.env))) := by rfl) :
    PE X (.Call (.Attribute o m apos) [] [] pos) (tMeth C m sp [] E ta tNil) := by
  obtain ⟨f, fd, F, hm, hb⟩ := c
  exact pe_meth0 he cl hm F hr hb .nil hx ht
theorem pe_calK (c : CalK X.prog X.w X.K X.mg X.base CX k C x ps sp) (hr : Room (k + 1) X.A) (hx : Passes CX X E) (ha : PA X (e :: es) t) (hg : Gl X x := by rfl)
    (hdb : (x == ("__debug__" : Str)) = false := by decide) (he : starEach (e :: es) X.env = (false, eval e X.env) :: starEach es X.env := by rfl) (hpl : (backTo pos (starEach es X.env)).any (·.1) = false := by rfl) :
    PE X (.Call (.Name x p) (e :: es) [] pos) (tMake C sp [] E t) := by
  obtain ⟨f, fd, F, M, hm, hb⟩ := c
  exact pe_make M F hr hg hm hb .nil hx ha hdb he hpl
/-- the i-th slot is stored -/
theorem pset (i : Nat) {y : Str} {te : TE} {pos' : Pos} (hN : X.N.Nodup) (he : PE X e te) (hi : X.N[i]? = some y := by rfl) (hx : Loc X.env.scope y := by first | exact Or.inl rfl | exact Or.inr rfl) (hs : swapsWith e (some (.Name y pos')) pos.line X.env = pure false := by rfl)
    (hf : X.fn y = true ∨ X.env.scope.names.lookup y = some .local := by first | exact .inl rfl | exact .inr rfl) : PS X (.Assign [.Name y pos'] e pos) (tAsg te (gName i)) := ps_set (i := i) hN hi hx he hs hf
theorem pgn (i : Nat) {y : Str} {pos' : Pos} (hN : X.N.Nodup) (hi : X.N[i]? = some y := by rfl) (hx : Loc X.env.scope y := by first | exact Or.inl rfl | exact Or.inr rfl)
    (hf : X.fn y = true ∨ X.env.scope.names.lookup y = some .local := by first | exact .inl rfl | exact .inr rfl) : PG X (.Name y pos') (gName i) := pg_name hN hi hx hf
end

/-! ### what a reading gives: v, of new addresses, and the heap behind -/
abbrev RP := V → (Addr → Prop) → Hp → Prop
def RetP (P : RP) (H : Hp) (Q : VK) : Prop := ∀ v fr H2, Ex H H2 → (∀ a, fr a → H a = none) → P v fr H2 → Q v H2
def EvP (te : TE) (σ : L2.St) (H : Hp) (P : RP) : Prop := ∀ H1, Ex H H1 → ∀ Q : VK, RetP P H1 Q → te σ H1 Q
/-- a new list of xs | a new tuple -/
def NewL (xs : List V) : RP := fun v fr H2 => ∃ p, v = .ref p ∧ fr p ∧ H2 p = some (.lst xs)
def NewU (xs : List V) : RP := fun v fr H2 => ∃ p, v = .ref p ∧ fr p ∧ H2 p = some (.tup xs)
def IsV (z : V) : RP := fun v _ _ => v = z
section
variable {K : PySem.W.Frag} {σ : L2.St} {H H' : Hp} {ta tb te tx : TE} {t u : TT} {x y z v : V} {r : R2} {P : RP}
theorem RetP.ex {Q : VK} (k : RetP P H Q) (e : Ex H H') : RetP P H' Q := fun v fr H2 e2 f p => k v fr H2 (e.trans e2) (fun a h => fresh_back e (f a h)) p
theorem RetV.ex {Q : VK} (k : RetV v H Q) (e : Ex H H') : RetV v H' Q := fun H2 e2 => k H2 (e.trans e2)
theorem RetL.ex {xs : List V} {Q : VK} (k : RetL xs H Q) (e : Ex H H') : RetL xs H' Q := fun p H2 n e2 l => k p H2 (fresh_back e n) (e.trans e2) l
theorem EvP.mono (e : Ex H H') (h : EvP te σ H P) : EvP te σ H' P := fun H1 a Q q => h H1 (e.trans a) Q q
theorem EvP.imp {P' : RP} (h : EvP te σ H P) (k : ∀ v fr H2, Ex H H2 → P v fr H2 → P' v fr H2) : EvP te σ H P' := fun H1 a Q q => h H1 a Q fun v fr H2 e f p => q v fr H2 e f (k v fr H2 (a.trans e) p)
theorem ev_p (h : Ev te σ H v) : EvP te σ H (IsV v) := fun H1 a Q q => h H1 a Q fun H2 e => q v (fun _ => False) H2 e (fun _ f => f.elim) rfl
theorem p_ev (h : EvP te σ H (IsV v)) : Ev te σ H v := fun H1 a Q q => h H1 a Q fun u fr H2 e _ p => by
  have p' : u = v := p
  rw [p']
  exact q H2 e
theorem el_p {xs : List V} (h : EvL te σ H xs) : EvP te σ H (NewL xs) := fun H1 a Q q => h H1 a Q fun p H2 n e l => q _ (fun b => b = p) H2 e (fun b hb => by rw [hb]; exact n) ⟨p, rfl, rfl, l⟩
theorem p_el {xs : List V} (h : EvP te σ H (NewL xs)) : EvL te σ H xs := fun H1 a Q q => h H1 a Q fun u fr H2 e f ⟨p, hu, n, l⟩ => by
  rw [hu]
  exact q p H2 (f p n) e l
theorem eu_p {xs : List V} (h : EvU te σ H xs) : EvP te σ H (NewU xs) := fun H1 a Q q => h H1 a Q fun p H2 n e l => q _ (fun b => b = p) H2 e (fun b hb => by rw [hb]; exact n) ⟨p, rfl, rfl, l⟩
theorem evp_cal {sp : Sp} {vs : List V} {E : XK} {ta : TA} (h : EvA ta σ H vs) (hs : ∀ H1, Ex H H1 → ∀ Q : VK, RetP P H1 Q → sp vs H1 Q E) : EvP (tCall sp [] E ta) σ H P := fun H1 e Q q =>
  h H1 e _ fun H2 e2 => by
    show sp (vs ++ []) H2 Q E
    rw [List.append_nil]
    exact hs H2 (e.trans e2) Q (q.ex e2)
theorem ev_cal {sp : Sp} {vs : List V} {E : XK} {ta : TA} (h : EvA ta σ H vs) (hs : ∀ H1, Ex H H1 → ∀ Q : VK, RetV z H1 Q → sp vs H1 Q E) : Ev (tCall sp [] E ta) σ H z := fun H1 e Q q =>
  h H1 e _ fun H2 e2 => by
    show sp (vs ++ []) H2 Q E
    rw [List.append_nil]
    exact hs H2 (e.trans e2) Q fun H3 e3 => q H3 (e2.trans e3)
theorem el_cal {sp : Sp} {vs xs : List V} {E : XK} {ta : TA} (h : EvA ta σ H vs) (hs : ∀ H1, Ex H H1 → ∀ Q : VK, RetL xs H1 Q → sp vs H1 Q E) : EvL (tCall sp [] E ta) σ H xs := fun H1 e Q q =>
  h H1 e _ fun H2 e2 => by
    show sp (vs ++ []) H2 Q E
    rw [List.append_nil]
    exact hs H2 (e.trans e2) Q fun p H3 n e3 l => q p H3 (fresh_back e2 n) (e2.trans e3) l
/-- a method of the instance at p -/
theorem evp_meth {C p dx : Addr} {m : Str} {fs : List (Str × V)} {sp : Sp} {vs : List V} {E : XK} {t : TA} (h : Ev ta σ H (.ref p)) (hp : H p = some (.ins C dx fs)) (l : fs.lookup m = none) (ha : EvA t σ H vs)
    (hs : ∀ H1, Ex H H1 → ∀ Q : VK, RetP P H1 Q → sp (.ref p :: vs) H1 Q E) : EvP (tMeth C m sp [] E ta t) σ H P := fun H1 e Q q =>
  h H1 e _ fun H2 e2 => ⟨p, dx, fs, rfl, (e.trans e2) p _ hp, l, ha H2 (e.trans e2) _ fun H3 e3 => by
    show sp (.ref p :: (vs ++ [])) H3 Q E
    rw [List.append_nil]
    exact hs H3 ((e.trans e2).trans e3) Q (q.ex (e2.trans e3))⟩
theorem ev_meth {C p dx : Addr} {m : Str} {fs : List (Str × V)} {sp : Sp} {vs : List V} {E : XK} {t : TA} (h : Ev ta σ H (.ref p)) (hp : H p = some (.ins C dx fs)) (l : fs.lookup m = none) (ha : EvA t σ H vs)
    (hs : ∀ H1, Ex H H1 → ∀ Q : VK, RetV z H1 Q → sp (.ref p :: vs) H1 Q E) : Ev (tMeth C m sp [] E ta t) σ H z :=
  p_ev (evp_meth h hp l ha fun H1 e Q q => hs H1 e Q fun H2 e2 => q z (fun _ => False) H2 e2 (fun _ f => f.elim) rfl)
theorem el_meth {C p dx : Addr} {m : Str} {fs : List (Str × V)} {sp : Sp} {vs xs : List V} {E : XK} {t : TA} (h : Ev ta σ H (.ref p)) (hp : H p = some (.ins C dx fs)) (l : fs.lookup m = none) (ha : EvA t σ H vs)
    (hs : ∀ H1, Ex H H1 → ∀ Q : VK, RetL xs H1 Q → sp (.ref p :: vs) H1 Q E) : EvL (tMeth C m sp [] E ta t) σ H xs :=
  p_el (evp_meth h hp l ha fun H1 e Q q => hs H1 e Q fun a H2 n e2 l2 => q (.ref a) (fun b => b = a) H2 e2 (fun b hb => by rw [hb]; exact n) ⟨a, rfl, rfl, l2⟩)
/-- a field -/
theorem ev_fld {C p dx : Addr} {f : Str} {fs : List (Str × V)} (h : Ev ta σ H (.ref p)) (hp : H p = some (.ins C dx fs)) (c : Cls K C) (n : NoAttr K C f) (l : fs.lookup f = some v) : Ev (tFld K ta f) σ H v := fun H1 e _ q =>
  h H1 e _ fun H2 e2 => ⟨p, C, dx, fs, v, rfl, (e.trans e2) p _ hp, c, n, l, q H2 e2⟩
/-- an argument that is new, used by a built-in: P of it, r asks that -/
theorem evp_cb1 {r : List V → Hp → VK → Prop} {P' : RP} (h : EvP ta σ H P) (hr : ∀ v fr H1, Ex H H1 → P v fr H1 → ∀ Q : VK, (∀ a, fr a → H a = none) → RetP P' H1 Q → r [v] H1 Q) : EvP (tCB r (tCons ta tNil)) σ H P' := fun H1 e Q q =>
  h H1 e _ fun v fr H2 e2 f p => hr v fr H2 (e.trans e2) p Q (fun a h => fresh_back e (f a h)) (q.ex e2)
theorem ev_cb1 {r : List V → Hp → VK → Prop} (h : EvP ta σ H P) (hr : ∀ v fr H1, Ex H H1 → P v fr H1 → ∀ Q : VK, RetV z H1 Q → r [v] H1 Q) : Ev (tCB r (tCons ta tNil)) σ H z := fun H1 e Q q =>
  h H1 e _ fun v fr H2 e2 _ p => hr v fr H2 (e.trans e2) p Q fun H3 e3 => q H3 (e2.trans e3)
/-- .. used by a def -/
theorem evp_cal1 {sp : Sp} {P' : RP} {E : XK} (h : EvP ta σ H P) (hr : ∀ v fr H1, Ex H H1 → P v fr H1 → ∀ Q : VK, RetP P' H1 Q → sp [v] H1 Q E) : EvP (tCall sp [] E (tCons ta tNil)) σ H P' := fun H1 e Q q =>
  h H1 e _ fun v fr H2 e2 _ p => hr v fr H2 (e.trans e2) p Q (q.ex e2)

/-! ### statements at every later heap -/
def St (t : TS) (D : Ends) (σ : L2.St) (H : Hp) : Prop := ∀ H1, Ex H H1 → t D σ H1
variable {D : Ends} {tu tw tz : TS} {g : TG}
theorem St.at (h : St tz D σ H) : tz D σ H := h H (Ex.refl H)
theorem St.mono (e : Ex H H') (h : St tz D σ H) : St tz D σ H' := fun H1 a => h H1 (e.trans a)
theorem st_next (h : ∀ H1, Ex H H1 → D.nx σ H1) : St tNext D σ H := h
theorem st_asg {i : Nat} (h : Ev te σ H v) (k : St tz D (σ.set i (some v)) H) : St (tSeq (tAsg te (gName i)) tz) D σ H := fun H1 a => h H1 a _ fun H2 e => k H2 (a.trans e)
theorem st_asg1 {i : Nat} (h : Ev te σ H v) (k : ∀ H1, Ex H H1 → D.nx (σ.set i (some v)) H1) : St (tAsg te (gName i)) D σ H := fun H1 a => h H1 a _ fun H2 e => k H2 (a.trans e)
theorem st_asgP {i : Nat} (h : EvP te σ H P) (k : ∀ v fr H1, Ex H H1 → (∀ a, fr a → H a = none) → P v fr H1 → St tz D (σ.set i (some v)) H1) : St (tSeq (tAsg te (gName i)) tz) D σ H := fun H1 a => h H1 a _ fun v fr H2 e f p => (k v fr H2 (a.trans e) (fun b hb => fresh_back a (f b hb)) p).at
theorem st_asgL {i : Nat} {xs : List V} (h : EvL te σ H xs) (k : ∀ p H1, H p = none → Ex H H1 → H1 p = some (.lst xs) → St tz D (σ.set i (some (.ref p))) H1) : St (tSeq (tAsg te (gName i)) tz) D σ H := fun H1 a => h H1 a _ fun p H2 n e l => (k p H2 (fresh_back a n) (a.trans e) l).at
theorem st_asgU {i : Nat} {xs : List V} (h : EvU te σ H xs) (k : ∀ p H1, H p = none → Ex H H1 → H1 p = some (.tup xs) → St tz D (σ.set i (some (.ref p))) H1) : St (tSeq (tAsg te (gName i)) tz) D σ H := fun H1 a => h H1 a _ fun p H2 n e l => (k p H2 (fresh_back a n) (a.trans e) l).at
theorem st_ret (h : Ev te σ H v) (k : ∀ H1, Ex H H1 → D.rt v H1) : St (tRet te) D σ H := fun H1 a => h H1 a _ fun H2 e => k H2 (a.trans e)
theorem st_retP (h : EvP te σ H P) (k : RetP P H D.rt) : St (tRet te) D σ H := fun H1 a => h H1 a _ (RetP.ex k a)
theorem st_retL {xs : List V} (h : EvL te σ H xs) (k : RetL xs H D.rt) : St (tRet te) D σ H := fun H1 a => h H1 a _ (RetL.ex k a)
theorem st_if {b : Bool} (h : EvT t σ H b) (h1 : b = true → St tu { D with nx := tz D } σ H) (h2 : b = false → St tw { D with nx := tz D } σ H) : St (tSeq (tIfS t tu tw) tz) D σ H := fun H1 a => h H1 a _ fun H2 e => by
  cases b with
  | true => exact h1 rfl H2 (a.trans e)
  | false => exact h2 rfl H2 (a.trans e)
theorem st_if1 {b : Bool} (h : EvT t σ H b) (h1 : b = true → St tu D σ H) (h2 : b = false → St tw D σ H) : St (tIfS t tu tw) D σ H := fun H1 a => h H1 a _ fun H2 e => by
  cases b with
  | true => exact h1 rfl H2 (a.trans e)
  | false => exact h2 rfl H2 (a.trans e)
/-- an if without else -/
theorem st_when {b : Bool} (h : EvT t σ H b) (h1 : b = true → St tu { D with nx := tz D } σ H) (h2 : b = false → St tz D σ H) : St (tSeq (tIfS t tu tNext) tz) D σ H := st_if h h1 h2
theorem st_when1 {b : Bool} (h : EvT t σ H b) (h1 : b = true → St tu D σ H) (h2 : b = false → ∀ H1, Ex H H1 → D.nx σ H1) : St (tIfS t tu tNext) D σ H := st_if1 h h1 h2
theorem st_drop (h : EvP te σ H P) (k : ∀ v fr H1, Ex H H1 → (∀ a, fr a → H a = none) → P v fr H1 → St tz D σ H1) : St (tSeq (tDrop te) tz) D σ H := fun H1 a => h H1 a _ fun v fr H2 e f p => (k v fr H2 (a.trans e) (fun b hb => fresh_back a (f b hb)) p).at
theorem st_dropV (h : Ev te σ H v) (k : St tz D σ H) : St (tSeq (tDrop te) tz) D σ H := fun H1 a => h H1 a _ fun H2 e => k H2 (a.trans e)
/-- xs.append(e); the list at l is no longer what it was -/
theorem st_app {l : Addr} {xs : List V} (hl : H l = some (.lst xs)) (ha : Ev ta σ H (.ref l)) (h : Ev te σ H v) (hz : xs.length < 100000) (k : ∀ H1, Ex H H1 → St tz D σ (upd H1 l (.lst (xs ++ [v])))) :
    St (tSeq (tDrop (tBM K "list" rAppend ta (tCons te tNil))) tz) D σ H := fun H1 a => ha H1 a _ fun H2 e1 =>
  ⟨Or.inl ⟨rfl, xs, sq_of (e1 l _ (a l _ hl))⟩, h H2 (a.trans e1) _ fun H3 e2 => ⟨l, xs, v, rfl, rfl, e2 l _ (e1 l _ (a l _ hl)), sz_lt hz, (k H3 ((a.trans e1).trans e2)).at⟩⟩
theorem st_app1 {l : Addr} {xs : List V} (hl : H l = some (.lst xs)) (ha : Ev ta σ H (.ref l)) (h : Ev te σ H v) (hz : xs.length < 100000) (k : ∀ H1, Ex H H1 → D.nx σ (upd H1 l (.lst (xs ++ [v])))) :
    St (tDrop (tBM K "list" rAppend ta (tCons te tNil))) D σ H := fun H1 a => ha H1 a _ fun H2 e1 =>
  ⟨Or.inl ⟨rfl, xs, sq_of (e1 l _ (a l _ hl))⟩, h H2 (a.trans e1) _ fun H3 e2 => ⟨l, xs, v, rfl, rfl, e2 l _ (e1 l _ (a l _ hl)), sz_lt hz, k H3 ((a.trans e1).trans e2)⟩⟩
theorem st_appP {l : Addr} {xs : List V} (hl : H l = some (.lst xs)) (ha : Ev ta σ H (.ref l)) (h : EvP te σ H P) (hz : xs.length < 100000) (k : ∀ v fr H1, Ex H H1 → (∀ a, fr a → H a = none) → P v fr H1 → St tz D σ (upd H1 l (.lst (xs ++ [v])))) :
    St (tSeq (tDrop (tBM K "list" rAppend ta (tCons te tNil))) tz) D σ H := fun H1 a => ha H1 a _ fun H2 e1 =>
  ⟨Or.inl ⟨rfl, xs, sq_of (e1 l _ (a l _ hl))⟩, h H2 (a.trans e1) _ fun v fr H3 e2 f p => ⟨l, xs, v, rfl, rfl, e2 l _ (e1 l _ (a l _ hl)), sz_lt hz, (k v fr H3 ((a.trans e1).trans e2) (fun b hb => fresh_back (a.trans e1) (f b hb)) p).at⟩⟩

/-! ### loops: Pv, a word of the turn, the slots and the heap (told at every later heap) -/
theorem st_forL {a : Addr} {xs : List V} {tl : TE} (h : Ev tl σ H (.ref a)) (hx : SqL K H a xs) (Pv : Nat → L2.St → Hp → Prop) (h0 : ∀ H1, Ex H H1 → Pv 0 σ H1) (hl : ∀ i σ' H', Pv i σ' H' → SqL K H' a xs)
    (hs : ∀ i x σ' H', xs[i]? = some x → Pv i σ' H' → g x σ' H' fun σ2 H2 => tu { D with nx := Pv (i + 1), ct := Pv (i + 1), bk := tz D } σ2 H2) (hd : ∀ σ' H', Pv xs.length σ' H' → tz D σ' H') : St (tSeq (tFor (iList K tl) g tu) tz) D σ H :=
  fun H1 e => q_forL (h.mono e) (ex_l e hx) Pv (fun H2 e2 => h0 H2 (e.trans e2)) (fun i σ' H' _ p => hl i σ' H' p) hs hd
theorem st_forLn {a : Addr} {xs : List V} {tl : TE} {j : Nat} (h : Ev tl σ H (.ref a)) (hx : SqL K H a xs) (Pv : Nat → L2.St → Hp → Prop) (h0 : ∀ H1, Ex H H1 → Pv 0 σ H1) (hl : ∀ i σ' H', Pv i σ' H' → SqL K H' a xs)
    (hs : ∀ i x σ' H', xs[i]? = some x → Pv i σ' H' → tu { D with nx := Pv (i + 1), ct := Pv (i + 1), bk := tz D } (σ'.set j (some x)) H') (hd : ∀ σ' H', Pv xs.length σ' H' → tz D σ' H') : St (tSeq (tFor (iList K tl) (gName j) tu) tz) D σ H :=
  st_forL h hx Pv h0 hl hs hd
/-- the last statement of a block -/
theorem st_drop1 (h : Ev te σ H v) (k : ∀ H1, Ex H H1 → D.nx σ H1) : St (tDrop te) D σ H := fun H1 a => h H1 a _ fun H2 e => k H2 (a.trans e)
theorem st_forLn1 {a : Addr} {xs : List V} {tl : TE} {j : Nat} (h : Ev tl σ H (.ref a)) (hx : SqL K H a xs) (Pv : Nat → L2.St → Hp → Prop) (h0 : ∀ H1, Ex H H1 → Pv 0 σ H1) (hl : ∀ i σ' H', Pv i σ' H' → SqL K H' a xs)
    (hs : ∀ i x σ' H', xs[i]? = some x → Pv i σ' H' → tu { D with nx := Pv (i + 1), ct := Pv (i + 1), bk := D.nx } (σ'.set j (some x)) H') (hd : ∀ σ' H', Pv xs.length σ' H' → D.nx σ' H') : St (tFor (iList K tl) (gName j) tu) D σ H :=
  fun H1 e => q_forL (h.mono e) (ex_l e hx) Pv (fun H2 e2 => h0 H2 (e.trans e2)) (fun i σ' H' _ p => hl i σ' H' p) hs hd
theorem st_forR1 {ta : TA} {j : Nat} {n : Int} (h : EvA ta σ H [.int n]) (hn : 0 ≤ n ∧ n ≤ 100000) (Pv : Nat → L2.St → Hp → Prop) (h0 : ∀ H1, Ex H H1 → Pv 0 σ H1)
    (hs : ∀ (i : Nat) σ' H', (i : Int) < n → Pv i σ' H' → tu { D with nx := Pv (i + 1), ct := Pv (i + 1), bk := tz D } (σ'.set j (some (.int (i : Int)))) H') (hd : ∀ σ' H', Pv n.toNat σ' H' → tz D σ' H') : St (tSeq (tFor (iRng1 ta) (gName j) tu) tz) D σ H :=
  fun H1 e => q_forR1 (h.mono e) hn Pv (fun H2 e2 => h0 H2 (e.trans e2)) hs hd
theorem st_forR1L {ta : TA} {j : Nat} {n : Int} (h : EvA ta σ H [.int n]) (hn : 0 ≤ n ∧ n ≤ 100000) (Pv : Nat → L2.St → Hp → Prop) (h0 : ∀ H1, Ex H H1 → Pv 0 σ H1)
    (hs : ∀ (i : Nat) σ' H', (i : Int) < n → Pv i σ' H' → tu { D with nx := Pv (i + 1), ct := Pv (i + 1), bk := D.nx } (σ'.set j (some (.int (i : Int)))) H') (hd : ∀ σ' H', Pv n.toNat σ' H' → D.nx σ' H') : St (tFor (iRng1 ta) (gName j) tu) D σ H :=
  fun H1 e => q_forR1 (h.mono e) hn Pv (fun H2 e2 => h0 H2 (e.trans e2)) hs hd
theorem st_while (W : Nat → L2.St → Hp → Prop) (m0 : Nat) (h0 : ∀ H1, Ex H H1 → W m0 σ H1)
    (hs : ∀ m σ' H', W m σ' H' → ∃ b, EvT t σ' H' b ∧ (b = true → ∃ N : L2.St → Hp → Prop, (∀ σ2 H2, N σ2 H2 → ∃ m', m' < m ∧ W m' σ2 H2) ∧ St tu { D with nx := N, ct := N, bk := tz D } σ' H') ∧ (b = false → St tz D σ' H')) : St (tSeq (tWhile t tu) tz) D σ H :=
  fun H1 e => q_while W m0 (h0 H1 e) fun m σ' H' w => by
    obtain ⟨b, hb, h1, h2⟩ := hs m σ' H' w
    refine ⟨b, hb, fun z H2 e2 => ?_, fun z H2 e2 => h2 z H2 e2⟩
    obtain ⟨N, n1, n2⟩ := h1 z
    exact ⟨N, n1, n2 H2 e2⟩
end
end Sw

/-! Own rules: sorted of rows, sorted of pairs from above, min by length, a module's number. -/
namespace Sw
open PySem PySem.Spec PyProof.Rows L2 Evl
section
variable {X : Cx}
theorem pe_gint {x : Str} {n : Int} {pos : Pos} (hm : ∃ t, X.mg x = some (.int n t)) (hg : Gl X x := by rfl) (hd : (x == ("__debug__" : Str)) = false := by decide) : PE X (.Name x pos) (tC (.int n)) := by
  obtain ⟨t, h⟩ := hm
  exact pe_glob hg h ⟨t, rfl⟩ hd
theorem dpAll_ints {K : PySem.W.Frag} {H : Hp} : ∀ ns : List Int, DpAll K H (ns.map V.int) (ns.map PyData.int)
  | [] => .nil
  | n :: ns => .cons (.int n) (dpAll_ints ns)
theorem dp_ints {K : PySem.W.Frag} {H : Hp} {p : Addr} {ns : List Int} (h : SqL K H p (ns.map V.int)) : Dp K H (.ref p) (.list (ns.map PyData.int)) := .lst h (dpAll_ints ns)
/-! rows: addresses with what stands there -/
abbrev Row := Addr × List Int
def IsRows (K : PySem.W.Frag) (H : Hp) (rs : List Row) : Prop := ∀ r ∈ rs, SqL K H r.1 (r.2.map V.int)
abbrev rowV (r : Row) : V := .ref r.1
def rowLe (r s : Row) : Bool := decide (r.2 ≤ s.2)
def rSortedRows (K : PySem.W.Frag) : List V → Hp → VK → Prop := fun vs H Q => ∃ (a : Addr) (rs : List Row), vs = [V.ref a] ∧ SqL K H a (rs.map rowV) ∧ IsRows K H rs ∧ ∀ p, H p = none → Q (.ref p) (upd H p (.lst ((rs.mergeSort rowLe).map rowV)))
theorem each_of_refs {β : Type} (f : β → Addr) : ∀ (bs : List β) {us : List Value}, Vals (bs.map fun b => V.ref (f b)) us → PySem.W.EachIs (fun v b => v = Value.ref (f b)) us bs
  | [], _, .nil => .nil
  | b :: bs, _, .cons r t => .cons r (each_of_refs f bs t)
theorem refs_of_each {β : Type} (f : β → Addr) : ∀ {bs : List β} {us : List Value}, PySem.W.EachIs (fun v b => v = Value.ref (f b)) us bs → Vals (bs.map fun b => V.ref (f b)) us
  | [], _, .nil => .nil
  | b :: bs, _, .cons r t => .cons r (refs_of_each f t)
theorem each_imp {α β : Type} {R S : α → β → Prop} : ∀ {as : List α} {bs : List β}, PySem.W.EachIs R as bs → (∀ a b, b ∈ bs → R a b → S a b) → PySem.W.EachIs S as bs
  | [], _, .nil, _ => .nil
  | _ :: _, _, .cons r t, h => .cons (h _ _ List.mem_cons_self r) (each_imp t fun a b m => h a b (List.mem_cons_of_mem _ m))
theorem cr_sortedRows (hu : X.A.units + 64 < cLine) : CallR X (.builtin "sorted") (rSortedRows X.K) := by
  intro pins s σ H vs us Q I r h
  obtain ⟨a, rs, rfl, hs, hrs, q⟩ := h
  obtain ⟨its, rv, hl, hz⟩ := I.list hs
  rw [Vals.ref1 r]
  have e0 := each_of_refs (fun b : Row => b.1) rs rv
  have dl : PySem.W.dataLe false (fun b : Row => PyData.list (b.2.map .int)) = rowLe := PySem.W.dataLe_rows fun b : Row => b.2
  refine PySem.W.sorted_data (enc := fun b : Row => PyData.list (b.2.map .int)) hl.isList e0 (each_imp e0 fun v b hb e => ?_) ?_ ?_ (by rw [List.length_map] at hz; exact hz) (fun b hb => ?_) fun out ho hout => ?_
  · exact Dp.reads I _ _ v (dp_ints (hrs b hb)) e
  · exact PySem.W.AllAlike.of fun b b' => by
      show PySem.W.alikeAll _ _ = true
      exact PySem.W.alike_ints _ _
  · exact PySem.W.Sortable.others fun b => ⟨(fun z => nomatch z), fun xs z => nomatch z⟩
  · have hd : (PyData.list (b.2.map PyData.int)).depth ≤ 1 := by
      simp only [PyData.depth, PySem.W.depth_ints]
      omega
    show X.A.units + 2 + (PyData.list (b.2.map PyData.int)).depth < cLine
    omega
  · rw [dl] at hout
    have hv := refs_of_each (fun b : Row => b.1) hout
    obtain ⟨ep, he'⟩ := PyProof.Rows.sortedAll_at s.heap its out.toArray
    have hlen : ((rs.mergeSort rowLe).map rowV).length ≤ sizeLine := by
      rw [List.length_map, List.length_mergeSort]
      rw [List.length_map] at hz
      exact hz
    exact ⟨.ref _, upd H (s.heap.objs.size + 1) (.lst ((rs.mergeSort rowLe).map rowV)), I.laid (t' := s.toks) (fun _ _ => PyProof.Rows.sortedAll_old) (Nat.le_succ _) ⟨hlen, out, ep, hv, he'⟩, rfl, q _ (I.hok.fresh (Nat.le_succ _))⟩
/-! pairs of ints, from above -/
abbrev Prow := Addr × Int × Int
def IsPrs (K : PySem.W.Frag) (H : Hp) (rs : List Prow) : Prop := ∀ r ∈ rs, SqT K H r.1 [.int r.2.1, .int r.2.2]
abbrev prV (r : Prow) : V := .ref r.1
/-- r may stand ahead of s: it is not less -/
def prGe (r s : Prow) : Bool := !decide (r.2.1 < s.2.1 ∨ (r.2.1 = s.2.1 ∧ r.2.2 < s.2.2))
def rSortedPR (K : PySem.W.Frag) : List V → List V → Hp → VK → Prop := fun vs zs H Q => ∃ (a : Addr) (rs : List Prow), vs = [V.ref a] ∧ zs = [.bl true] ∧ SqL K H a (rs.map prV) ∧ IsPrs K H rs ∧
  ∀ p, H p = none → Q (.ref p) (upd H p (.lst ((rs.mergeSort prGe).map prV)))
theorem cr_sortedPR (hu : X.A.units + 64 < cLine) : CallRK X (.builtin "sorted") [Str.ofString "reverse"] (rSortedPR X.K) := by
  intro pins s σ H vs zs us ws Q I r rz h
  obtain ⟨a, rs, rfl, rfl, hs, hrs, q⟩ := h
  obtain ⟨its, rv, hl, hz⟩ := I.list hs
  rw [Vals.ref1 r]
  obtain ⟨w1, rfl, e1⟩ := vals1 rz
  obtain rfl : w1 = Value.bool true := e1
  have e0 := each_of_refs (fun b : Prow => b.1) rs rv
  have dl : PySem.W.dataLe true (fun b : Prow => PyData.tuple [.int b.2.1, .int b.2.2]) = prGe := by
    funext p q
    show (!PySem.W.dataLt (.tuple [.int p.2.1, .int p.2.2]) (.tuple [.int q.2.1, .int q.2.2])) = _
    rw [PySem.W.dataLt_ii]
    rfl
  refine PySem.W.sorted_rev_data (b := true) (enc := fun b : Prow => PyData.tuple [.int b.2.1, .int b.2.2]) hl.isList e0 (each_imp e0 fun v b hb e => ?_) ?_ ?_ (by rw [List.length_map] at hz; exact hz) (fun b hb => ?_) fun out ho hout => ?_
  · exact Dp.reads I _ _ v (.tup (hrs b hb) (.cons (.int _) (.cons (.int _) .nil))) e
  · exact PySem.W.AllAlike.of fun b b' => rfl
  · exact PySem.W.Sortable.tuples fun b => ⟨_, _, rfl⟩
  · have hd : (PyData.tuple [PyData.int b.2.1, PyData.int b.2.2]).depth ≤ 1 := by
      first | decide | exact Nat.le_refl _ | simp [PyData.depth, PyData.depthAll]
    show X.A.units + 2 + (PyData.tuple [PyData.int b.2.1, PyData.int b.2.2]).depth < cLine
    omega
  · rw [dl] at hout
    have hv := refs_of_each (fun b : Prow => b.1) hout
    obtain ⟨ep, he'⟩ := PyProof.Rows.sortedAll_at s.heap its out.toArray
    have hlen : ((rs.mergeSort prGe).map prV).length ≤ sizeLine := by
      rw [List.length_map, List.length_mergeSort]
      rw [List.length_map] at hz
      exact hz
    exact ⟨.ref _, upd H (s.heap.objs.size + 1) (.lst ((rs.mergeSort prGe).map prV)), I.laid (t' := s.toks) (fun _ _ => PyProof.Rows.sortedAll_old) (Nat.le_succ _) ⟨hlen, out, ep, hv, he'⟩, rfl, q _ (I.hok.fresh (Nat.le_succ _))⟩
/-! min by key=len -/
theorem argBest_least (f : Nat → Int) : ∀ n, argBest (fun i j => decide (f i < f j)) n ≤ n ∧ ∀ j, j ≤ n → f (argBest (fun i j => decide (f i < f j)) n) ≤ f j
  | 0 => ⟨Nat.le_refl _, fun j hj => by
    have e : j = 0 := by omega
    subst e
    exact Int.le_refl _⟩
  | n + 1 => by
    obtain ⟨h1, h2⟩ := argBest_least f n
    unfold argBest
    by_cases h : f (n + 1) < f (argBest (fun i j => decide (f i < f j)) n)
    · simp only [h, decide_true, if_true]
      refine ⟨Nat.le_refl _, fun j hj => ?_⟩
      by_cases e : j = n + 1
      · rw [e]
        exact Int.le_refl _
      · have := h2 j (by omega)
        omega
    · simp only [h, decide_false, Bool.false_eq_true, if_false]
      refine ⟨by omega, fun j hj => ?_⟩
      by_cases e : j = n + 1
      · rw [e]
        omega
      · exact h2 j (by omega)
theorem lt_int_rc {prog : Program} {w : World} {A : Around} {s : Shared} {Q : Value → Shared → Prop} {E : Value → Shared → Prop} {a b : Int} {t u : Tok} (h : Q (.bool (decide (a < b))) s) : wpAny (model prog w) A (richCompare .Lt (.int a t) (.int b u)) Q E s :=
  CmpOf.ints_lt (prog := prog) (w := w) (A := A) (P := fun i v => ∃ t, v = .int (if i = 0 then a else b) t) (fun i => if i = 0 then a else b) (fun i v h => h) 0 1 _ _ _ _ _ ⟨t, rfl⟩ ⟨u, rfl⟩ h
def tMinLen (K : PySem.W.Frag) (te : TE) : TE := fun σ H Q => te σ H fun x H1 => ∃ (a : Addr) (rs : List Row), [x] = [V.ref a] ∧ SqL K H1 a (rs.map rowV) ∧ IsRows K H1 rs ∧ rs ≠ [] ∧
  ∀ r ∈ rs, (∀ s ∈ rs, r.2.length ≤ s.2.length) → Q (rowV r) H1
theorem min_len {pins : List (Addr × Obj)} {s : Shared} {σ : L2.St} {H : Hp} {Q : VK} {a : Addr} {rs : List Row} (hc : X.calm = true) (I : Inv X pins σ H s) (hs : SqL X.K H a (rs.map rowV)) (hrs : IsRows X.K H rs) (hne : rs ≠ [])
    (q : ∀ r ∈ rs, (∀ s ∈ rs, r.2.length ≤ s.2.length) → Q (rowV r) H) : wpAny (model X.prog X.w) X.A (call (.builtin "min") [.ref a] [(Str.ofString "key", .builtin "len")]) (EP X pins σ Q) X.xe s := by
  obtain ⟨its, rv, hl, hz⟩ := I.list hs
  have hlen : rs.length = its.length := by
    have := rv.length
    rw [List.length_map] at this
    exact this
  have hpos : 0 < rs.length := List.length_pos_iff.mpr hne
  have item : ∀ (i : Nat) (v : Value), its[i]? = some v → ∃ r, rs[i]? = some r ∧ v = .ref r.1 := fun i v hv => by
    have hi : i < its.length := (List.getElem?_eq_some_iff.mp hv).1
    obtain ⟨u, hu, ru⟩ := rv.get (i := i) (x := rowV (rs[i]'(by omega))) (by rw [List.getElem?_map, List.getElem?_eq_getElem (by omega)]; rfl)
    rw [hv] at hu
    cases hu
    exact ⟨_, List.getElem?_eq_getElem (by omega), ru⟩
  have lists : ∀ r ∈ rs, ∃ ls : List Value, s.heap.IsList r.1 ls.toArray ∧ ls.length = r.2.length ∧ (ls.toArray.size : Int) < 2 ^ 63 := fun r hr => by
    obtain ⟨ls, rl, pl, zl⟩ := I.list (hrs r hr)
    have := rl.length
    rw [List.length_map] at this zl
    have hn := line63
    exact ⟨ls, pl.isList, this.symm, by simp only [List.size_toArray]; omega⟩
  let kf : Nat → Int := fun i => ((rs[i]?.map fun r => r.2.length).getD 0 : Nat)
  refine PySem.call_min_walkKB (PySem.W.iter_listW (A := X.A.in1) (I.ok.hd hc) hl.isList fun s₂ e W st hfp hw hk => ?_)
  refine ⟨_, _, _, _, _, _, _, fun s' => (∀ b o, s.heap.get? b = some o → s'.heap.get? b = some o) ∧ s'.gens = s.gens ∧ s'.drawn = s.drawn ∧ s'.os = s.os, fun i k _ => ∃ t, k = .int (kf i) t, fun i j => decide (kf i < kf j), rfl, W, st, hfp, by simp only [List.size_toArray]; omega, ?_, ?_, ?_⟩
  · refine ⟨?_, fun i k s1 s2 h _ => h, ?_, ?_⟩
    · rintro s1 s2 ⟨h1, h2, h3, h4⟩ m
      refine ⟨fun b o hb => m.heap b o (fun z => ?_) (h1 b o hb), ?_, m.drawn.trans h3, m.os.trans h4⟩
      · have hlt := Heap.lt_size hb
        rcases List.mem_cons.mp z with z | z
        · rw [z, e] at hlt
          have : (s.heap.push { cls := .type "list_iterator", data := .fields #[.ref a, .int 0 0] }).objs.size = s.heap.objs.size + 1 := Heap.size_push _ _
          have hlt' : (s.heap.push { cls := .type "list_iterator", data := .fields #[.ref a, .int 0 0] }).objs.size < s.heap.objs.size := hlt
          omega
        · rw [List.mem_singleton.mp z] at hlt
          exact Nat.lt_irrefl _ hlt
      · have g : s2.gens = s1.gens := m.gens
        rw [g, h2]
    · rintro i v s1 o Q' E' hi hP ⟨h1, h2, h3, h4⟩ hst hS k
      have hv : its[i]? = some v := by
        have : its.toArray[i]? = some v := hP
        simpa using this
      obtain ⟨r, hr, rfl⟩ := item i v hv
      obtain ⟨ls, hL, hn, hf⟩ := lists r (List.mem_of_getElem? hr)
      have hL1 : s1.heap.IsList r.1 ls.toArray := by
        obtain ⟨ob, ho, c1, c2⟩ := hL
        exact ⟨ob, h1 _ _ ho, c1, c2⟩
      refine Calls.call_len_list hL1 hf ?_
      refine k _ _ ⟨h1, h2, h3, h4⟩ hst hS ⟨s1.toks + 1, ?_⟩ fun j k' h => h
      show Value.int (ls.toArray.size : Int) _ = Value.int (kf i) _
      have ek : kf i = (ls.toArray.size : Int) := by
        show (((rs[i]?.map fun r => r.2.length).getD 0 : Nat) : Int) = _
        rw [hr]
        simp only [Option.map_some, Option.getD_some, List.size_toArray]
        omega
      rw [ek]
    · rintro i j ki kj s1 Q' E' _ ⟨t, rfl⟩ ⟨u, rfl⟩ h
      exact lt_int_rc h
  · subst e
    exact ⟨hk, rfl, rfl, rfl⟩
  · rintro v s' hP ⟨h1, h2, h3, h4⟩
    obtain ⟨hm, hb⟩ := argBest_least kf (its.toArray.size - 1)
    have hv : its[argBest (fun i j => decide (kf i < kf j)) (its.toArray.size - 1)]? = some v := by
      have : its.toArray[argBest (fun i j => decide (kf i < kf j)) (its.toArray.size - 1)]? = some v := hP
      simpa using this
    obtain ⟨r, hr, rfl⟩ := item _ v hv
    have es : s' = { s with heap := s'.heap, toks := s'.toks } := by
      obtain ⟨hp, g, d, tk, os⟩ := s'
      cases h2
      cases h3
      cases h4
      rfl
    rw [es]
    refine ⟨rowV r, H, I.kept (t' := s'.toks) h1, rfl, q r (List.mem_of_getElem? hr) fun t ht => ?_⟩
    obtain ⟨j, hj, ej⟩ := List.getElem_of_mem ht
    have h5 := hb j (by simp only [List.size_toArray]; omega)
    have e1 : kf (argBest (fun i j => decide (kf i < kf j)) (its.toArray.size - 1)) = (r.2.length : Int) := by
      show (((rs[argBest (fun i j => decide (kf i < kf j)) (its.toArray.size - 1)]?.map fun r => r.2.length).getD 0 : Nat) : Int) = _
      rw [hr]
      rfl
    have e2 : kf j = (t.2.length : Int) := by
      show (((rs[j]?.map fun r => r.2.length).getD 0 : Nat) : Int) = _
      rw [List.getElem?_eq_getElem hj, ej]
      rfl
    rw [e1, e2] at h5
    omega
theorem pe_minLen {p p2 pos kpos : Pos} {e : Expr} {te : TE} (hg : Gl X "min") (hm : X.mg "min" = none) (hm2 : X.mg "len" = none) (he : PE X e te) (hc : X.calm = true := by rfl) (hg2 : Gl X "len" := by rfl)
    (h1 : backTo pos (starEach [e] X.env) = (false, eval e X.env) :: backTo pos (starEach [] X.env) := by rfl) (hpl : (backTo pos (starEach [e] X.env)).any (·.1) = false := by rfl)
    (hall : (backToKw pos (keywordEach [⟨some "key", .Name "len" p2, kpos⟩] X.env)).all (·.1.isSome) = true := by rfl) (hnone : (backToKw pos (keywordEach [⟨some "key", .Name "len" p2, kpos⟩] X.env)).any (·.1.isNone) = false := by rfl)
    (hks : (backToKw pos (keywordEach [⟨some "key", .Name "len" p2, kpos⟩] X.env)).filterMap (·.1) = [Str.ofString "key"] := by rfl)
    (hs : starEach [e] X.env = (false, eval e X.env) :: starEach [] X.env := by rfl) :
    PE X (.Call (.Name "min" p) [e] [⟨some "key", .Name "len" p2, kpos⟩] pos) (tMinLen X.K te) := by
  refine ⟨fun pins s σ H Q I h => ?_⟩
  refine wpAny_Call_Name_kw (ld_blt (u := .builtin "min") I hg hm (by decide +kernel) ?_ (by decide) (by decide))
  have ha : PA X [e] (tCons te tNil) := pa_cons he pa_nil hs
  refine PyProof.Rows.callWith_kw (id := "min") (thn (ha.run pos pins s σ H (fun vs H1 => ∃ (a : Addr) (rs : List Row), vs = [V.ref a] ∧ SqL X.K H1 a (rs.map rowV) ∧ IsRows X.K H1 rs ∧ rs ≠ [] ∧ ∀ r ∈ rs, (∀ s ∈ rs, r.2.length ≤ s.2.length) → Q (rowV r) H1) I ?_) fun us s1 ⟨vs, H1, I1, r1, q1⟩ => ?_) h1 hpl hall hnone
  · exact h
  · obtain ⟨a, rs, rfl, hs', hrs, hne, q⟩ := q1
    rw [Vals.ref1 r1]
    show wpAny _ _ (evalAll ((do let v ← eval (.Name "len" p2) X.env; standAt pos; pure v) :: (backToKw pos (keywordEach [] X.env)).map (·.2))) _ _ s1
    refine wpAny_evalAll_cons (wpAny_bind (ld_blt I1 hg2 hm2 (u := .builtin "len") (by decide +kernel) (wpAny_bind (wpAny_standAt (wpAny_pure ?_))) (by decide) (by decide)))
    refine wpAny_evalAll_nil ?_
    rw [hks]
    exact min_len hc I1 hs' hrs hne q
end
end Sw

/-! The rules with the written part told, so that a comprehension's block finds them. -/
namespace Sw
open PySem PySem.Spec PyProof.Rows L2 Evl
section
variable {X : Cx}
theorem ix_listK (K : PySem.W.Frag) (h : X.K = K := by rfl) : IxR X (rIxL K) := by subst h; exact ix_list
theorem ix_tupK (K : PySem.W.Frag) (h : X.K = K := by rfl) : IxR X (rIxT K) := by subst h; exact ix_tup
theorem call_lenK (K : PySem.W.Frag) (h : X.K = K := by rfl) : CallR X (.builtin "len") (fun xs H Q => ∃ p ys, xs = [.ref p] ∧ (SqL K H p ys ∨ SqT K H p ys) ∧ Q (.int ys.length) H) := by subst h; exact call_len_seq
theorem call_listK (K : PySem.W.Frag) (h : X.K = K := by rfl) : CallR X (.type "list") (fun xs H Q => ∃ p ys, xs = [.ref p] ∧ (SqL K H p ys ∨ SqT K H p ys) ∧ ∀ l, H l = none → Q (.ref l) (upd H l (.lst ys))) := by subst h; exact call_list_of
theorem cr_allK (K : PySem.W.Frag) (hc : X.calm = true := by rfl) (h : X.K = K := by rfl) : CallR X (.builtin "all") (rAll K) := by subst h; exact cr_all hc
theorem cr_anyK (K : PySem.W.Frag) (hc : X.calm = true := by rfl) (h : X.K = K := by rfl) : CallR X (.builtin "any") (rAny K) := by subst h; exact cr_any hc
theorem cr_sumK (K : PySem.W.Frag) (hc : X.calm = true := by rfl) (h : X.K = K := by rfl) : CallR X (.builtin "sum") (rSum K) := by subst h; exact cr_sum hc
theorem cr_minK (K : PySem.W.Frag) (hc : X.calm = true := by rfl) (h : X.K = K := by rfl) : CallR X (.builtin "min") (rMin K) := by subst h; exact cr_min hc
theorem cr_maxK (K : PySem.W.Frag) (hc : X.calm = true := by rfl) (h : X.K = K := by rfl) : CallR X (.builtin "max") (rMax K) := by subst h; exact cr_max hc
theorem cr_sortedIK (K : PySem.W.Frag) (h : X.K = K := by rfl) : CallR X (.builtin "sorted") (rSortedI K) := by subst h; exact cr_sortedI
theorem cr_sortedRowsK (K : PySem.W.Frag) (hu : X.A.units + 64 < cLine) (h : X.K = K := by rfl) : CallR X (.builtin "sorted") (rSortedRows K) := by subst h; exact cr_sortedRows hu
theorem cr_sortedPRK (K : PySem.W.Frag) (hu : X.A.units + 64 < cLine) (h : X.K = K := by rfl) : CallRK X (.builtin "sorted") [Str.ofString "reverse"] (rSortedPR K) := by subst h; exact cr_sortedPR hu
theorem call_isiK' (K : PySem.W.Frag) (h : X.K = K := by rfl) : CallR X (.builtin "isinstance") (rIsi K) := by subst h; exact call_isi
theorem op_inK (K : PySem.W.Frag) (h : X.K = K := by rfl) : OpR X (compareOp .In) (rIn K false) := by subst h; exact op_in_seq
theorem op_notInK (K : PySem.W.Frag) (h : X.K = K := by rfl) : OpR X (compareOp .NotIn) (rIn K true) := by subst h; exact op_notIn_seq
theorem op_eqDK (K : PySem.W.Frag) (hu : X.A.units + 64 < cLine) (h : X.K = K := by rfl) : OpR X (compareOp .Eq) (rEqD K) := by subst h; exact op_eqD hu
theorem op_neDK (K : PySem.W.Frag) (hu : X.A.units + 64 < cLine) (h : X.K = K := by rfl) : OpR X (compareOp .NotEq) (rNeD K) := by subst h; exact op_neD hu
theorem sl_listK (K : PySem.W.Frag) (h : X.K = K := by rfl) : SlR X (rSlL K) := by subst h; exact sl_list
theorem pe_fldK (K : PySem.W.Frag) {e : Expr} {f : Str} {ta : TE} {pos : Pos} (he : PE X e ta) (hb : attributeBase e f X.env (eval e X.env) = eval e X.env := by rfl) (h : X.K = K := by rfl) : PE X (.Attribute e f pos) (tFld K ta f) := by subst h; exact pe_fld he hb
theorem ps_fldK (K : PySem.W.Frag) {o value : Expr} {f : Str} {ta tv : TE} {pos pos' : Pos} (ha : PE X o ta) (hv : PE X value tv) (hs : swapsWith value (some (.Attribute o f pos')) pos.line X.env = pure false := by rfl) (h : X.K = K := by rfl) : PS X (.Assign [.Attribute o f pos'] value pos) (sFld K ta tv f) := by subst h; exact ps_fld ha hv hs
theorem pi_listK (K : PySem.W.Frag) {tg l : Expr} {tl : TE} (hl : PE X l tl) (h : X.K = K := by rfl) : PI X tg l (iList K tl) := by subst h; exact pi_list hl
theorem pi_tupK (K : PySem.W.Frag) {tg l : Expr} {tl : TE} (hl : PE X l tl) (h : X.K = K := by rfl) : PI X tg l (iTup K tl) := by subst h; exact pi_tup hl
theorem pe_revLK (K : PySem.W.Frag) {e : Expr} {te : TE} {k : Nat} {p1 p2 p3 pos : Pos} (he : PE X e te) (h : X.K = K := by rfl) : PE X (.Subscript e (.Slice none none (some (.UnaryOp .USub (.Constant (.int 1) k p1) p2)) p3) pos) (tRevL K te) := by subst h; exact pe_revL he
end
end Sw

/-! More readings; a tactic that evaluates plain expressions. -/
namespace Sw
open PySem PySem.Spec PyProof.Rows L2 Evl
section
variable {K : PySem.W.Frag} {σ : L2.St} {H H' : Hp} {ta tb tc te : TE} {t u : TT} {x y z v : V} {r r' : R2}
theorem ev_to {v0 : V} (h : Ev te σ H v0) (e : v0 = v) : Ev te σ H v := e ▸ h
theorem et_to {b0 b : Bool} (h : EvT t σ H b0) (e : b0 = b) : EvT t σ H b := e ▸ h
theorem ev_chain {k k' : Bool} (ha : Ev ta σ H x) (hb : Ev tb σ H y) (hr : RV r x y H (.bl k)) (hc : Ev tc σ H z) (hr' : RV r' y z H (.bl k')) : Ev (tChain r r' ta tb tc) σ H (.bl (k && k')) := fun H1 e Q q =>
  ha H1 e _ fun H2 e2 => hb H2 (e.trans e2) _ fun H3 e3 => hr H3 ((e.trans e2).trans e3) _ fun H4 e4 => ⟨k, rfl, by
    have e5 := ((e.trans e2).trans e3).trans e4
    cases k with
    | true => exact hc H4 e5 _ fun H5 e6 => hr' H5 (e5.trans e6) Q fun H6 e7 => q H6 ((((e2.trans e3).trans e4).trans e6).trans e7)
    | false => exact q H4 ((e2.trans e3).trans e4)⟩
/-- where the first is false the last isn't looked at -/
theorem ev_chain0 (ha : Ev ta σ H x) (hb : Ev tb σ H y) (hr : RV r x y H (.bl false)) : Ev (tChain r r' ta tb tc) σ H (.bl false) := fun H1 e Q q =>
  ha H1 e _ fun H2 e2 => hb H2 (e.trans e2) _ fun H3 e3 => hr H3 ((e.trans e2).trans e3) _ fun H4 e4 => ⟨false, rfl, q H4 ((e2.trans e3).trans e4)⟩
abbrev rLen (K : PySem.W.Frag) : List V → Hp → VK → Prop := fun xs H Q => ∃ p ys, xs = [.ref p] ∧ (SqL K H p ys ∨ SqT K H p ys) ∧ Q (.int ys.length) H
abbrev rLst (K : PySem.W.Frag) : List V → Hp → VK → Prop := fun xs H Q => ∃ p ys, xs = [.ref p] ∧ (SqL K H p ys ∨ SqT K H p ys) ∧ ∀ l, H l = none → Q (.ref l) (upd H l (.lst ys))
theorem rc_len {l : Addr} {xs : List V} (hl : SqL K H l xs) : RC (rLen K) [.ref l] H (.int xs.length) := fun H1 e _ q => ⟨l, xs, rfl, Or.inl (ex_l e hl), q H1 (Ex.refl H1)⟩
theorem rc_lenT {l : Addr} {xs : List V} (hl : SqT K H l xs) : RC (rLen K) [.ref l] H (.int xs.length) := fun H1 e _ q => ⟨l, xs, rfl, Or.inr (ex_t e hl), q H1 (Ex.refl H1)⟩
theorem rcl_list {l : Addr} {xs : List V} (hl : SqL K H l xs) : RCL (rLst K) [.ref l] H xs := fun H1 e _ q => ⟨l, xs, rfl, Or.inl (ex_l e hl), fun p hp => q p _ hp (Ex.new hp) upd_same⟩
theorem rc_all {l : Addr} {bs : List Bool} (hl : SqL K H l (bs.map V.bl)) : RC (rAll K) [.ref l] H (.bl (bs.all id)) := fun H1 e _ q => ⟨l, bs, rfl, ex_l e hl, q H1 (Ex.refl H1)⟩
theorem rc_any {l : Addr} {bs : List Bool} (hl : SqL K H l (bs.map V.bl)) : RC (rAny K) [.ref l] H (.bl (bs.any id)) := fun H1 e _ q => ⟨l, bs, rfl, ex_l e hl, q H1 (Ex.refl H1)⟩
theorem rc_sum {l : Addr} {ns : List Int} (hl : SqL K H l (ns.map V.int)) : RC (rSum K) [.ref l] H (.int ns.sum) := fun H1 e _ q => ⟨l, ns, rfl, ex_l e hl, q H1 (Ex.refl H1)⟩
/-- a built-in of a new list -/
theorem ev_cbL {r : List V → Hp → VK → Prop} {xs : List V} (h : EvL ta σ H xs) (hr : ∀ p H1, Ex H H1 → H1 p = some (.lst xs) → RC r [.ref p] H1 z) : Ev (tCB r (tCons ta tNil)) σ H z := fun H1 e Q q =>
  h H1 e _ fun p H2 n e2 l => hr p H2 (e.trans e2) l H2 (Ex.refl H2) Q fun H3 e3 => q H3 (e2.trans e3)
theorem ev_all {bs : List Bool} (h : EvL ta σ H (bs.map V.bl)) : Ev (tCB (rAll K) (tCons ta tNil)) σ H (.bl (bs.all id)) := ev_cbL h fun _ _ _ l => rc_all (sq_of l)
theorem ev_any {bs : List Bool} (h : EvL ta σ H (bs.map V.bl)) : Ev (tCB (rAny K) (tCons ta tNil)) σ H (.bl (bs.any id)) := ev_cbL h fun _ _ _ l => rc_any (sq_of l)
theorem ev_sum {ns : List Int} (h : EvL ta σ H (ns.map V.int)) : Ev (tCB (rSum K) (tCons ta tNil)) σ H (.int ns.sum) := ev_cbL h fun _ _ _ l => rc_sum (sq_of l)
theorem ev_lenL {xs : List V} (h : EvL ta σ H xs) : Ev (tCB (rLen K) (tCons ta tNil)) σ H (.int xs.length) := ev_cbL h fun _ _ _ l => rc_len (sq_of l)
/-- isinstance, one class -/
theorem rc_isi {t w : Value} {b : Bool} {c : V} (hc : ClsV c w) (ty : ∀ H1, Ex H H1 → TyX K H1 x t) (hk : PySem.W.kitOne K t w = some b) : RC (rIsi K) [x, c] H (.bl b) := fun H1 e _ q => ⟨x, c, t, w, b, rfl, hc, ty H1 e, hk, q H1 (Ex.refl H1)⟩
theorem TyX.ex {t : Value} (h : TyX K H x t) (e : Ex H H') : TyX K H' x t := by
  cases h with
  | base b =>
    refine .base ?_
    cases b with
    | non => exact .non
    | bl y => exact .bl y
    | int i => exact .int i
    | str y => exact .str y
    | flt y => exact .flt y
    | lst ea => exact .lst (e _ _ ea)
    | frz ea => exact .frz (e _ _ ea)
    | tup ea => exact .tup (e _ _ ea)
    | dK ea => exact .dK (e _ _ ea)
    | dT ea => exact .dT (e _ _ ea)
    | ins ea cl ha hn htk hm => exact .ins (e _ _ ea) cl ha hn htk hm
  | byt y => exact .byt y
  | set ea => exact .set (e _ _ ea)
  | kList ea c => exact .kList ea c
  | kTuple ea c => exact .kTuple ea c
  | kDict ea c => exact .kDict ea c
  | fTuple ea => exact .fTuple (e _ _ ea)
  | fDict ea => exact .fDict (e _ _ ea)
theorem rc_isiB {a b : String} {r : Bool} (ty : TyX K H x (.type a)) (hk : kitB a b = some r) : RC (rIsi K) [x, .ty b] H (.bl r) := rc_isi (.ty b) (fun _ e => Sw.TyX.ex ty e) (kit_ty hk)
theorem kit_int_int : kitB "int" "int" = some true := by decide +kernel
theorem kit_int_bool : kitB "int" "bool" = some false := by decide +kernel
theorem kit_int_str : kitB "int" "str" = some false := by decide +kernel
theorem kit_int_list : kitB "int" "list" = some false := by decide +kernel
theorem kit_int_tuple : kitB "int" "tuple" = some false := by decide +kernel
theorem kit_bool_int : kitB "bool" "int" = some true := by decide +kernel
theorem kit_bool_bool : kitB "bool" "bool" = some true := by decide +kernel
theorem kit_bool_str : kitB "bool" "str" = some false := by decide +kernel
theorem kit_bool_list : kitB "bool" "list" = some false := by decide +kernel
theorem kit_bool_tuple : kitB "bool" "tuple" = some false := by decide +kernel
theorem kit_str_int : kitB "str" "int" = some false := by decide +kernel
theorem kit_str_bool : kitB "str" "bool" = some false := by decide +kernel
theorem kit_str_str : kitB "str" "str" = some true := by decide +kernel
theorem kit_str_list : kitB "str" "list" = some false := by decide +kernel
theorem kit_str_tuple : kitB "str" "tuple" = some false := by decide +kernel
theorem kit_list_int : kitB "list" "int" = some false := by decide +kernel
theorem kit_list_bool : kitB "list" "bool" = some false := by decide +kernel
theorem kit_list_str : kitB "list" "str" = some false := by decide +kernel
theorem kit_list_list : kitB "list" "list" = some true := by decide +kernel
theorem kit_list_tuple : kitB "list" "tuple" = some false := by decide +kernel
theorem kit_tuple_int : kitB "tuple" "int" = some false := by decide +kernel
theorem kit_tuple_bool : kitB "tuple" "bool" = some false := by decide +kernel
theorem kit_tuple_str : kitB "tuple" "str" = some false := by decide +kernel
theorem kit_tuple_list : kitB "tuple" "list" = some false := by decide +kernel
theorem kit_tuple_tuple : kitB "tuple" "tuple" = some true := by decide +kernel
theorem kit_NoneType_int : kitB "NoneType" "int" = some false := by decide +kernel
theorem kit_NoneType_bool : kitB "NoneType" "bool" = some false := by decide +kernel
theorem kit_NoneType_str : kitB "NoneType" "str" = some false := by decide +kernel
theorem kit_NoneType_list : kitB "NoneType" "list" = some false := by decide +kernel
theorem kit_NoneType_tuple : kitB "NoneType" "tuple" = some false := by decide +kernel
theorem isi_int_int {n : Int} : RC (rIsi K) [.int n, .ty "int"] H (.bl true) := rc_isiB (.base (.int _)) kit_int_int
theorem isi_bool_int {n : Bool} : RC (rIsi K) [.bl n, .ty "int"] H (.bl true) := rc_isiB (.base (.bl _)) kit_bool_int
theorem isi_str_int {n : Str} : RC (rIsi K) [.str n, .ty "int"] H (.bl false) := rc_isiB (.base (.str _)) kit_str_int
theorem isi_NoneType_int  : RC (rIsi K) [.non, .ty "int"] H (.bl false) := rc_isiB (.base .non) kit_NoneType_int
theorem isi_list_int {p : Addr} (h : TyX K H (.ref p) (.type "list")) : RC (rIsi K) [.ref p, .ty "int"] H (.bl false) := rc_isiB h kit_list_int
theorem isi_tuple_int {p : Addr} (h : TyX K H (.ref p) (.type "tuple")) : RC (rIsi K) [.ref p, .ty "int"] H (.bl false) := rc_isiB h kit_tuple_int
theorem isi_int_bool {n : Int} : RC (rIsi K) [.int n, .ty "bool"] H (.bl false) := rc_isiB (.base (.int _)) kit_int_bool
theorem isi_bool_bool {n : Bool} : RC (rIsi K) [.bl n, .ty "bool"] H (.bl true) := rc_isiB (.base (.bl _)) kit_bool_bool
theorem isi_str_bool {n : Str} : RC (rIsi K) [.str n, .ty "bool"] H (.bl false) := rc_isiB (.base (.str _)) kit_str_bool
theorem isi_NoneType_bool  : RC (rIsi K) [.non, .ty "bool"] H (.bl false) := rc_isiB (.base .non) kit_NoneType_bool
theorem isi_list_bool {p : Addr} (h : TyX K H (.ref p) (.type "list")) : RC (rIsi K) [.ref p, .ty "bool"] H (.bl false) := rc_isiB h kit_list_bool
theorem isi_tuple_bool {p : Addr} (h : TyX K H (.ref p) (.type "tuple")) : RC (rIsi K) [.ref p, .ty "bool"] H (.bl false) := rc_isiB h kit_tuple_bool
theorem isi_int_list {n : Int} : RC (rIsi K) [.int n, .ty "list"] H (.bl false) := rc_isiB (.base (.int _)) kit_int_list
theorem isi_bool_list {n : Bool} : RC (rIsi K) [.bl n, .ty "list"] H (.bl false) := rc_isiB (.base (.bl _)) kit_bool_list
theorem isi_str_list {n : Str} : RC (rIsi K) [.str n, .ty "list"] H (.bl false) := rc_isiB (.base (.str _)) kit_str_list
theorem isi_NoneType_list  : RC (rIsi K) [.non, .ty "list"] H (.bl false) := rc_isiB (.base .non) kit_NoneType_list
theorem isi_list_list {p : Addr} (h : TyX K H (.ref p) (.type "list")) : RC (rIsi K) [.ref p, .ty "list"] H (.bl true) := rc_isiB h kit_list_list
theorem isi_tuple_list {p : Addr} (h : TyX K H (.ref p) (.type "tuple")) : RC (rIsi K) [.ref p, .ty "list"] H (.bl false) := rc_isiB h kit_tuple_list
theorem isi_int_tuple {n : Int} : RC (rIsi K) [.int n, .ty "tuple"] H (.bl false) := rc_isiB (.base (.int _)) kit_int_tuple
theorem isi_bool_tuple {n : Bool} : RC (rIsi K) [.bl n, .ty "tuple"] H (.bl false) := rc_isiB (.base (.bl _)) kit_bool_tuple
theorem isi_str_tuple {n : Str} : RC (rIsi K) [.str n, .ty "tuple"] H (.bl false) := rc_isiB (.base (.str _)) kit_str_tuple
theorem isi_NoneType_tuple  : RC (rIsi K) [.non, .ty "tuple"] H (.bl false) := rc_isiB (.base .non) kit_NoneType_tuple
theorem isi_list_tuple {p : Addr} (h : TyX K H (.ref p) (.type "list")) : RC (rIsi K) [.ref p, .ty "tuple"] H (.bl false) := rc_isiB h kit_list_tuple
theorem isi_tuple_tuple {p : Addr} (h : TyX K H (.ref p) (.type "tuple")) : RC (rIsi K) [.ref p, .ty "tuple"] H (.bl true) := rc_isiB h kit_tuple_tuple
theorem isi_int_str {n : Int} : RC (rIsi K) [.int n, .ty "str"] H (.bl false) := rc_isiB (.base (.int _)) kit_int_str
theorem isi_bool_str {n : Bool} : RC (rIsi K) [.bl n, .ty "str"] H (.bl false) := rc_isiB (.base (.bl _)) kit_bool_str
theorem isi_str_str {n : Str} : RC (rIsi K) [.str n, .ty "str"] H (.bl true) := rc_isiB (.base (.str _)) kit_str_str
theorem isi_NoneType_str  : RC (rIsi K) [.non, .ty "str"] H (.bl false) := rc_isiB (.base .non) kit_NoneType_str
theorem isi_list_str {p : Addr} (h : TyX K H (.ref p) (.type "list")) : RC (rIsi K) [.ref p, .ty "str"] H (.bl false) := rc_isiB h kit_list_str
theorem isi_tuple_str {p : Addr} (h : TyX K H (.ref p) (.type "tuple")) : RC (rIsi K) [.ref p, .ty "str"] H (.bl false) := rc_isiB h kit_tuple_str
theorem rv_eqI {i j : Int} : RV rEq (.int i) (.int j) H (.bl (decide (i = j))) := fun H1 _ _ q => ⟨rfl, by
  have e : decide (V.int i = V.int j) = decide (i = j) := by rw [dec_int, Bool.beq_eq_decide_eq]
  rw [e]
  exact q H1 (Ex.refl H1)⟩
theorem rv_neI {i j : Int} : RV rNe (.int i) (.int j) H (.bl (!decide (i = j))) := fun H1 _ _ q => ⟨rfl, by
  have e : decide (V.int i = V.int j) = decide (i = j) := by rw [dec_int, Bool.beq_eq_decide_eq]
  rw [e]
  exact q H1 (Ex.refl H1)⟩
theorem rv_isN : RV (fun x y H Q => y = .non ∧ Q (.bl (decide (x = .non))) H) x .non H (.bl (decide (x = .non))) := fun H1 _ _ q => ⟨rfl, q H1 (Ex.refl H1)⟩
theorem rv_notN : RV (fun x y H Q => y = .non ∧ Q (.bl (!decide (x = .non))) H) x .non H (.bl (!decide (x = .non))) := fun H1 _ _ q => ⟨rfl, q H1 (Ex.refl H1)⟩
theorem rv_isB {i j : Bool} : RV rIsB (.bl i) (.bl j) H (.bl (decide (i = j))) := fun H1 _ _ q => ⟨i, j, rfl, rfl, q H1 (Ex.refl H1)⟩
theorem rv_notB {i j : Bool} : RV rNotB (.bl i) (.bl j) H (.bl (!decide (i = j))) := fun H1 _ _ q => ⟨i, j, rfl, rfl, q H1 (Ex.refl H1)⟩
theorem rv_inv {i : Int} : RU (rU fun i => .int (Builtin.bitNot i)) (.int i) H (.int (Builtin.bitNot i)) := fun H1 _ _ q => ⟨i, rfl, q H1 (Ex.refl H1)⟩
theorem rv_shl {i j : Int} (h : CPow i j) : RV (rI CPow fun i j => .int (i * 2 ^ j.toNat)) (.int i) (.int j) H (.int (i * 2 ^ j.toNat)) := rv_I h
theorem et_val {b : Bool} (h : Ev te σ H (.bl b)) : EvT (tB te) σ H b := et_B h
theorem ev_drop_p {P : RP} (h : EvP te σ H P) : EvP te σ H P := h
/-- a new list concatenated -/
theorem el_cat {l b : Addr} {xs ys : List V} (ha : Ev ta σ H (.ref l)) (hb : Ev tb σ H (.ref b)) (h1 : H l = some (.lst xs)) (h2 : H b = some (.lst ys)) (hz : xs.length + ys.length ≤ 100000) : EvL (tOp rCat ta tb) σ H (xs ++ ys) := fun H1 e Q q =>
  ha H1 e _ fun H2 e2 => hb H2 (e.trans e2) _ fun H3 e3 => ⟨l, b, xs, ys, rfl, rfl, ((e.trans e2).trans e3) _ _ h1, ((e.trans e2).trans e3) _ _ h2, sz_of hz, fun p hp => q p _ (fresh_back (e2.trans e3) hp) ((e2.trans e3).trans (Ex.new hp)) upd_same⟩
theorem el_catN {l : Addr} {xs ys : List V} (ha : Ev ta σ H (.ref l)) (hb : EvL tb σ H ys) (h1 : H l = some (.lst xs)) (hz : xs.length + ys.length ≤ 100000) : EvL (tOp rCat ta tb) σ H (xs ++ ys) := fun H1 e Q q =>
  ha H1 e _ fun H2 e2 => hb H2 (e.trans e2) _ fun b H3 n e3 l3 => ⟨l, b, xs, ys, rfl, rfl, ((e.trans e2).trans e3) _ _ h1, l3, sz_of hz, fun p hp => q p _ (fresh_back (e2.trans e3) hp) ((e2.trans e3).trans (Ex.new hp)) upd_same⟩
/-! comprehensions -/
theorem et_yes : EvT tYes σ H true := fun H1 _ _ q => q H1 (Ex.refl H1)
theorem given_list {f : V → Bool} {g : V → V} (xs : List V) : given xs.length (fun i => f (xs.getD i .non)) (fun i => g (xs.getD i .non)) = (xs.filter f).map g := by
  have e : (List.range xs.length).map (fun i => xs.getD i .non) = xs := by
    apply List.ext_getElem
    · rw [List.length_map, List.length_range]
    · intro i h1 h2
      rw [List.getElem_map, List.getElem_range, List.getD_eq_getElem?_getD, List.getElem?_eq_getElem h2]
      rfl
  unfold given
  conv => rhs; rw [← e]
  rw [List.filter_map, List.map_map]
  rfl
theorem getD_of {xs : List V} {i : Nat} {x : V} (h : xs[i]? = some x) : xs.getD i .non = x := by
  rw [List.getD_eq_getElem?_getD, h]
  rfl
theorem el_filter {a : Addr} {xs : List V} {tl : TE} {j : Nat} {vs : List Nat} {tt : TT} (f : V → Bool) (g : V → V) (h : Ev tl σ H (.ref a)) (hx : SqL K H a xs) (hz : xs.length ≤ 40000) (hw : ∀ x, wipe ((wipe σ vs).set j (some x)) vs = wipe σ vs)
    (ht : ∀ x ∈ xs, ∀ H1, Ex H H1 → EvT tt ((wipe σ vs).set j (some x)) H1 (f x)) (he : ∀ x ∈ xs, f x = true → ∀ H1, Ex H H1 → Ev te ((wipe σ vs).set j (some x)) H1 (g x)) : EvL (tLc (iList K tl) (gName j) tt te vs) σ H ((xs.filter f).map g) := by
  rw [← given_list]
  refine el_lcL _ _ h hx hz hw (fun i x H1 e hi => ?_) (fun i x H1 e hi hf => ?_)
  · have q := ht x (List.mem_of_getElem? hi) H1 e
    rw [getD_of hi]
    exact q
  · have hf' : f x = true := by rw [← getD_of hi]; exact hf
    have q := he x (List.mem_of_getElem? hi) hf' H1 e
    show Ev te _ H1 (g (xs.getD i .non))
    rw [getD_of hi]
    exact q
theorem el_map {a : Addr} {xs : List V} {tl : TE} {j : Nat} {vs : List Nat} (g : V → V) (h : Ev tl σ H (.ref a)) (hx : SqL K H a xs) (hz : xs.length ≤ 40000) (hw : ∀ x, wipe ((wipe σ vs).set j (some x)) vs = wipe σ vs)
    (he : ∀ x ∈ xs, ∀ H1, Ex H H1 → Ev te ((wipe σ vs).set j (some x)) H1 (g x)) : EvL (tLc (iList K tl) (gName j) tYes te vs) σ H (xs.map g) := by
  have q := el_filter (te := te) (fun _ => true) g h hx hz hw (fun x _ H1 _ => et_yes) (fun x hm _ H1 e => he x hm H1 e)
  rw [List.filter_eq_self.mpr (fun _ _ => rfl)] at q
  exact q
/-- over a range from 0: which places give, and what -/
theorem el_rng {ta : TA} {j : Nat} {vs : List Nat} {n : Nat} {tt : TT} (f : Nat → Bool) (v : Nat → V) (h : EvA ta σ H [.int (n : Int)]) (hn : n ≤ 40000) (hw : ∀ x, wipe ((wipe σ vs).set j (some x)) vs = wipe σ vs)
    (ht : ∀ i, i < n → ∀ H1, Ex H H1 → EvT tt ((wipe σ vs).set j (some (.int (i : Int)))) H1 (f i)) (he : ∀ i, i < n → f i = true → ∀ H1, Ex H H1 → Ev te ((wipe σ vs).set j (some (.int (i : Int)))) H1 (v i)) :
    EvL (tLc (iRng1 ta) (gName j) tt te vs) σ H (((List.range n).filter f).map v) := by
  have q := el_lcR1 (te := te) f v h ⟨by omega, by omega⟩ hw (fun i H1 e hi => ht i (by omega) H1 e) (fun i H1 e hi hf => he i (by omega) hf H1 e)
  have en : ((n : Int)).toNat = n := Int.toNat_natCast n
  rw [en] at q
  exact q
/-! fields stored -/
theorem st_fld {C p dx : Addr} {f : Str} {fs : List (Str × V)} {D : Ends} {tz : TS} (hv : Ev te σ H v) (ho : Ev ta σ H (.ref p)) (hp : H p = some (.ins C dx fs)) (c : Cls K C) (n : NoAttr K C f) (hz : fs.length < 1000)
    (k : ∀ H1, Ex H H1 → St tz D σ (upd H1 p (.ins C dx (putF f v fs)))) : St (tSeq (sFld K ta te f) tz) D σ H := fun H1 a => hv H1 a _ fun H2 e => ho H2 (a.trans e) _ fun H3 e3 => ⟨p, C, dx, fs, rfl, ((a.trans e).trans e3) p _ hp, c, n, hz, (k H3 ((a.trans e).trans e3)).at⟩
theorem st_fld1 {C p dx : Addr} {f : Str} {fs : List (Str × V)} {D : Ends} (hv : Ev te σ H v) (ho : Ev ta σ H (.ref p)) (hp : H p = some (.ins C dx fs)) (c : Cls K C) (n : NoAttr K C f) (hz : fs.length < 1000)
    (k : ∀ H1, Ex H H1 → D.nx σ (upd H1 p (.ins C dx (putF f v fs)))) : St (sFld K ta te f) D σ H := fun H1 a => hv H1 a _ fun H2 e => ho H2 (a.trans e) _ fun H3 e3 => ⟨p, C, dx, fs, rfl, ((a.trans e).trans e3) p _ hp, c, n, hz, k H3 ((a.trans e).trans e3)⟩
theorem st_fldL1 {C p dx : Addr} {f : Str} {fs : List (Str × V)} {D : Ends} {xs : List V} (hv : EvL te σ H xs) (ho : Ev ta σ H (.ref p)) (hp : H p = some (.ins C dx fs)) (c : Cls K C) (n : NoAttr K C f) (hz : fs.length < 1000)
    (k : ∀ l H1, Ex H H1 → H l = none → H1 l = some (.lst xs) → D.nx σ (upd H1 p (.ins C dx (putF f (.ref l) fs)))) : St (sFld K ta te f) D σ H := fun H1 a => hv H1 a _ fun l H2 hn e hl => ho H2 (a.trans e) _ fun H3 e3 => ⟨p, C, dx, fs, rfl, ((a.trans e).trans e3) p _ hp, c, n, hz, k l H3 ((a.trans e).trans e3) (fresh_back a hn) (e3 _ _ hl)⟩
/-- what is kept but at p -/
def But (p : Addr) (H H' : Hp) : Prop := ∀ b o, H b = some o → b ≠ p → H' b = some o
theorem But.of {p : Addr} (e : Ex H H') : But p H H' := fun b o h _ => e b o h
theorem But.upd {p : Addr} {o : HO} (e : But p H H') : But p H (upd H' p o) := fun b u h n => by rw [upd_ne n]; exact e b u h n
theorem But.trans {p : Addr} {H'' : Hp} (e : But p H H') (f : But p H' H'') : But p H H'' := fun b o h n => f b o (e b o h n) n
theorem rd_ex {a : Addr} {u : HO} (h : Rd H a u) (e : Ex H H') : Rd H' a u := ex_rd e h
theorem rd_but {a p : Addr} {u : HO} (h : Rd H a u) (e : But p H H') (n : a ≠ p) : Rd H' a u := by
  rcases h with h | ⟨o, h⟩
  · exact .inl (e _ _ h n)
  · exact .inr ⟨o, e _ _ h n⟩
theorem rd_ty {a : Addr} {xs : List V} (h : Rd H a (.lst xs)) : TyX K H (.ref a) (.type "list") := by
  rcases h with h | ⟨o, h⟩
  · exact .base (.lst h)
  · exact .base (.frz h)
theorem rd_ne {a p : Addr} {u : HO} {C dx : Addr} {fs : List (Str × V)} (h : Rd H a u) (hp : H p = some (.ins C dx fs)) (hu : ∀ C dx fs, u ≠ .ins C dx fs) : a ≠ p := by
  rintro rfl
  rcases h with h | ⟨o, h⟩
  · rw [hp] at h
    exact hu _ _ _ (Option.some.inj h).symm
  · rw [hp] at h
    cases h
end
end Sw

/-! short tactics: the length of a promise's arguments; plain expressions -/
local macro_rules | `(tactic| walk_at "rv") => `(tactic| first
  | with_reducible assumption
  | exact Sw.rv_eqI | exact Sw.rv_neI | exact Sw.rv_isN | exact Sw.rv_notN | exact Sw.rv_isB | exact Sw.rv_notB
  | exact Evl.rv_I0
  | exact Evl.rv_I (by first | decide | omega | assumption)
  | exact Evl.rv_ixL (by assumption) (by assumption)
  | exact Evl.rv_ixT (by assumption) (by assumption)
  | exact Evl.rv_eq rfl | exact Evl.rv_ne rfl)
local macro_rules | `(tactic| walk_at "rc") => `(tactic| first
  | with_reducible assumption
  | exact Sw.rc_len (by assumption) | exact Sw.rc_lenT (by assumption)
  | exact Sw.isi_int_int
  | exact Sw.isi_bool_int
  | exact Sw.isi_str_int
  | exact Sw.isi_NoneType_int
  | exact Sw.isi_int_bool
  | exact Sw.isi_bool_bool
  | exact Sw.isi_str_bool
  | exact Sw.isi_NoneType_bool
  | exact Sw.isi_int_list
  | exact Sw.isi_bool_list
  | exact Sw.isi_str_list
  | exact Sw.isi_NoneType_list
  | exact Sw.isi_int_tuple
  | exact Sw.isi_bool_tuple
  | exact Sw.isi_str_tuple
  | exact Sw.isi_NoneType_tuple
  | exact Sw.isi_int_str
  | exact Sw.isi_bool_str
  | exact Sw.isi_str_str
  | exact Sw.isi_NoneType_str
  | exact Sw.isi_list_list (by first | assumption | exact L2.TyX.base (L2.TyOf.lst (by assumption)) | exact L2.TyX.base (L2.TyOf.tup (by assumption)))
  | exact Sw.isi_tuple_list (by first | assumption | exact L2.TyX.base (L2.TyOf.lst (by assumption)) | exact L2.TyX.base (L2.TyOf.tup (by assumption)))
  | exact Sw.isi_list_tuple (by first | assumption | exact L2.TyX.base (L2.TyOf.lst (by assumption)) | exact L2.TyX.base (L2.TyOf.tup (by assumption)))
  | exact Sw.isi_tuple_tuple (by first | assumption | exact L2.TyX.base (L2.TyOf.lst (by assumption)) | exact L2.TyX.base (L2.TyOf.tup (by assumption)))
  | exact Sw.isi_list_int (by first | assumption | exact L2.TyX.base (L2.TyOf.lst (by assumption)) | exact L2.TyX.base (L2.TyOf.tup (by assumption)))
  | exact Sw.isi_tuple_int (by first | assumption | exact L2.TyX.base (L2.TyOf.lst (by assumption)) | exact L2.TyX.base (L2.TyOf.tup (by assumption)))
  | exact Sw.isi_list_bool (by first | assumption | exact L2.TyX.base (L2.TyOf.lst (by assumption)) | exact L2.TyX.base (L2.TyOf.tup (by assumption)))
  | exact Sw.isi_tuple_bool (by first | assumption | exact L2.TyX.base (L2.TyOf.lst (by assumption)) | exact L2.TyX.base (L2.TyOf.tup (by assumption))))
local macro_rules | `(tactic| walk_at "ea") => `(tactic| first
  | with_reducible exact Evl.ea_nil
  | (with_reducible apply Evl.ea_cons; (walk_at "ev"); (walk_at "ea")))
local macro_rules | `(tactic| walk_at "ev") => `(tactic| first
  | with_reducible assumption
  | with_reducible exact Evl.ev_c
  | exact Evl.ev_var rfl
  | (with_reducible apply Evl.ev_op; (walk_at "ev"); (walk_at "ev"); (walk_at "rv"))
  | (with_reducible apply Sw.ev_chain; (walk_at "ev"); (walk_at "ev"); (walk_at "rv"); (walk_at "ev"); (walk_at "rv"))
  | (with_reducible apply Evl.ev_un; (walk_at "ev"); first | exact Evl.ru_neg | exact Sw.rv_inv)
  | (with_reducible apply Evl.ev_notV; (walk_at "ev"))
  | (with_reducible apply Evl.ev_andV; (walk_at "ev"); (intro _; walk_at "ev"))
  | (with_reducible apply Evl.ev_orV; (walk_at "ev"); (intro _; walk_at "ev"))
  | (with_reducible apply Evl.ev_cb; (walk_at "ea"); (walk_at "rc"))
  | exact Evl.ev_c)
local macro_rules | `(tactic| walk_at "et") => `(tactic| first
  | with_reducible assumption
  | (with_reducible apply Evl.et_test; (walk_at "ev"))
  | (with_reducible apply Evl.et_B; (walk_at "ev"))
  | (with_reducible apply Evl.et_not; (walk_at "et"))
  | (with_reducible apply Evl.et_and; (walk_at "et"); (intro _; walk_at "et"))
  | (with_reducible apply Evl.et_or; (walk_at "et"); (intro _; walk_at "et")))

/-! Defs that may raise: their promises where nothing is raised; try and except; isinstance of what was caught. -/
namespace Sw
open PySem PySem.Spec PyProof.Rows L2 Evl
section
variable {P : Program} {w : World} {K : PySem.W.Frag} {mg : Str → Option Value} {base : Heap} {k : Nat} {f : Addr} {fd : FuncData} {ps : List Str} {sp spX : Sp} {x m : Str} {C : Addr}
/-- what is promised without an error -/
theorem FnOk.quiet (F : FnOk P w K mg base (L2N.CX P w) k f fd ps spX) (h : ∀ vs H Q E, sp vs H Q E → spX vs H Q E0) : FnOk P w K mg base CX0 k f fd ps sp :=
  ⟨fun vs H Q E q => F.len vs H Q E0 (h _ _ _ _ q), fun A outer s H args us vs Q E hr he hb hv hs => codeAny_mono (F.run A outer s H args us vs Q E0 hr he hb hv (h _ _ _ _ hs)) fun r s' hq => by
    cases r with
    | ok fl => cases fl <;> exact hq
    | error e =>
      obtain ⟨_, _, _, _, _, _, _, _, _, _, _, _, z⟩ := hq
      exact z.elim⟩
theorem Cal.quiet (c : Cal P w K mg base (L2N.CX P w) k x ps spX) (h : ∀ vs H Q E, sp vs H Q E → spX vs H Q E0) : Cal P w K mg base CX0 k x ps sp :=
  let ⟨f, fd, F, r⟩ := c
  ⟨f, fd, Sw.FnOk.quiet F h, r⟩
theorem CalM.quiet (c : CalM P w K mg base (L2N.CX P w) k C m ps spX) (h : ∀ vs H Q E, sp vs H Q E → spX vs H Q E0) : CalM P w K mg base CX0 k C m ps sp :=
  let ⟨f, fd, F, r⟩ := c
  ⟨f, fd, Sw.FnOk.quiet F h, r⟩
theorem CalK.quiet (c : CalK P w K mg base (L2N.CX P w) k C x ps spX) (h : ∀ vs H Q E, sp vs H Q E → spX vs H Q E0) : CalK P w K mg base CX0 k C x ps sp :=
  let ⟨f, fd, F, r⟩ := c
  ⟨f, fd, Sw.FnOk.quiet F h, r⟩
end
/-- a def that may raise -/
theorem okN {P : Program} {w : World} {K : PySem.W.Frag} {mg : Str → Option Value} {base : Heap} {x qual : Str} {st : Stmt} {f : Addr} {fd : FuncData} {N ps : List Str} {k : Nat} {sp : Sp} (F : Fun K x qual st f fd) (S : FnScope N ps (defScope st)) (len : ∀ vs H Q E, sp vs H Q E → vs.length = ps.length)
    (body : ∀ (cdv : Value) (A : Around) (outer : List Env) (s : Shared) (H : Hp) (vs : List V) (Q : VK) (E : XK), Room k (A.deeper (envOfC qual (defScope st) s.heap.objs.size f cdv)) → sp vs H Q E →
      ∃ t, PSs (cxOf (L2N.CX P w) P w K mg base N qual (defScope st) f cdv A outer s H E) (defBody st) t ∧ t { nx := fun _ H' => Q .non H', rt := Q } (start N vs) H) : FnOk P w K mg base (L2N.CX P w) (k + 1) f fd ps sp := by
  obtain ⟨oc, od, kV, doc, pm, an, cdv, ct, osl, rfl, lk, hcd⟩ := F.ex
  exact fn_of lk hcd S len (body cdv)
/-- around a body nothing is let out -/
theorem takesN {X : Cx} : L2N.Takes X (fun _ _ _ _ => False) := fun _ _ x => by
  obtain ⟨_, _, _, _, _, _, _, _, _, _, _, _, _, _, _, _, z⟩ := x
  exact z.elim
/-! any(..) while an error is handled -/
section
variable {prog : Program} {w : World} {A : Around} {E : Value → Shared → Prop} {s : Shared}
theorem next_hot {it l x1 : Addr} {i : Nat} {items : Array Value} {Q : Option Value → Shared → Prop} (hot : HotX.HotAt A x1 s.heap) (nx : x1 ≠ it) (hit : s.heap.IsListIter it l i) (hl : s.heap.IsList l items) (hx : items[i]? = none)
    (q : ∀ h', (∀ b o, b ≠ it → s.heap.get? b = some o → h'.get? b = some o) → Q none { s with heap := h' }) : wpAny (model prog w) A (pyNext (.ref it)) Q E s := by
  obtain ⟨hh, o1, vs1, h1, d1, c1⟩ := hot
  obtain ⟨o, ho, hc, hd⟩ := id hit
  obtain ⟨ol, hol, _, nl, hdl⟩ := hl
  unfold pyNext
  refine wpAny_bind (wpAny_attempt (wpAny_callSpecial?_slot (name := Str.ofString "__next__") hit.typeIs slot_listiter_next (wpAny_call_entry slot_listiter_next hit.typeIs entry_listiter_next ?_ (args_listiter_next _))))
  show wpAny _ _ (field (.ref it) 0 >>= _) _ _ s
  refine wpAny_bind (wpAny_field ho hd (x := .ref l) rfl ?_)
  show wpAny _ _ (if (Value.ref l == Value.none) = true then _ else _) _ _ s
  rw [if_neg (fun z : (Value.ref l == Value.none) = true => Bool.false_ne_true z)]
  show wpAny _ _ (field (.ref it) 1 >>= _) _ _ s
  refine wpAny_bind (wpAny_field ho hd (x := .int i 0) rfl ?_)
  show wpAny _ _ (seqItems? (.ref l) >>= _) _ _ s
  refine wpAny_bind (wpAny_seqItems hol hdl ?_)
  simp only [Int.toNat_natCast, hx]
  refine wpAny_bind (wpAny_rule (wpAny_bind (wpAny_setField ho hd (by simp) ?_)))
  show wpAny _ _ (newExc (.type "StopIteration") [] >>= _) _ _ _
  refine wpAny_bind ?_
  simp only [newExc, newTuple]
  refine wpAny_bind (wpAny_newObj_type ?_ (by size_fits))
  refine wpAny_bind (m := firstArgMember _ _) (wpAny_of_eq (a := Value.none) (by first | rfl | (simp only [firstArgMember]; rfl)) ?_)
  refine wpAny_newObj_type ?_ (by size_fits)
  have g1 : ∀ b o, b ≠ it → s.heap.get? b = some o → ∀ h', Heap.SameBut it s.heap h' → h'.get? b = some o := fun b o n e h' sb => sb.extBut b o n e
  refine HotX.raiseNew_hot ⟨hh, o1, vs1, Heap.get?_push_of_some _ (Heap.get?_push_of_some _ (g1 _ _ nx h1 _ (Heap.SameBut.update ..))), d1, c1⟩ ?_ (Heap.get?_push_size _ rfl) rfl (by first | (simp; done) | (simp; omega) | (simp only [Array.size_append]; simp; omega)) ?_
  · exact Nat.ne_of_lt (Heap.lt_size (Heap.get?_push_of_some _ (g1 _ _ nx h1 _ (Heap.SameBut.update ..))))
  refine wpAny_bind (wpAny_isInstance (T := "StopIteration") (b := true) ⟨_, Heap.get?_update_self _ (Heap.get?_push_size _ rfl) rfl, rfl⟩ isSubtype_stop ?_)
  refine wpAny_pure (q _ fun b o n e => ?_)
  have e2 : (s.heap.update it (Obj.mapFields fun x => x.setIfInBounds 0 Value.none)).get? b = some o := g1 b o n e _ (Heap.SameBut.update ..)
  exact (Heap.get?_update_other _ _ (Nat.ne_of_gt (Heap.lt_size (Heap.get?_push_of_some _ e2)))).trans (Heap.get?_push_of_some _ (Heap.get?_push_of_some _ e2))
theorem walksH {x1 : Addr} {o1 : Obj} {vs1 : Array Value} (hh : A.handled = some (.ref x1)) (d1 : o1.data = .fields vs1) (c1 : vs1[2]? = some .none) (I ax : Addr) (hne : ax ≠ I) (nx : x1 ≠ I) (items : Array Value) :
    Walks prog w A I [I, ax, x1] [I] items.size (fun i v => items[i]? = some v) (fun i h => (h.IsListIter I ax i ∧ h.IsList ax items) ∧ h.get? x1 = some o1) where
  sub := fun b hb => by simp at hb; simp [hb]
  frame := fun _ _ _ st hk => ⟨⟨st.1.1.at fun o e => hk I (by simp) o e, st.1.2.at fun o e => hk ax (by simp) o e⟩, hk x1 (by simp) _ st.2⟩
  item := fun i s Q E hi st hQ => by
    refine wpAny_pyNext_list_item st.1.1 st.1.2 (x := items[i]) (by simp [hi]) fun h' hit' hs' => ?_
    exact hQ _ h' s.toks (by simp [hi]) ⟨⟨hit', st.1.2.extBut hs'.extBut hne⟩, hs'.extBut _ _ nx st.2⟩ fun b o hb e => hs'.extBut b o (fun h => hb (by simp [h])) e
  done := fun s Q E st hQ => next_hot ⟨hh, o1, vs1, st.2, d1, c1⟩ nx st.1.1 st.1.2 (by simp) fun h' he' => hQ h' s.toks fun b o hb e => he' b o (fun h => hb (by simp [h])) e
  self := fun _ _ _ _ st hQ => wpAny_pyIter_listiter st.1.1 hQ
end
theorem call_anyH {X : Cx} (K : PySem.W.Frag) {a : Addr} {cls : Value} {d : Option Addr} {oe : Obj} {pn : List (Addr × Obj)} (hz : L2N.Zn cls d oe) (hf : ∃ vs, oe.data = .fields vs) (h : X.K = K := by rfl) : CallR (X.suite a ((a, oe) :: pn)) (.builtin "any") (rAny K) := by
  subst h
  intro pins s σ H vs us Q I r h
  obtain ⟨l, bs, rfl, hs, q⟩ := h
  obtain ⟨its, rv, hl, _⟩ := I.list hs
  rw [Vals.ref1 r]
  have hb := rv.bls
  obtain ⟨hget, _⟩ := I.pin (a, oe) (List.mem_append.mpr (.inl List.mem_cons_self))
  obtain ⟨v1, d1⟩ := hf
  have nx : a ≠ s.heap.objs.size := Nat.ne_of_lt (Heap.lt_size hget)
  refine call_any_walk (iter_any hl.isList fun s₂ e2 st hne => ?_)
  subst e2
  refine ⟨_, _, _, _, _, _, _, rfl, walksH (A := (X.suite a ((a, oe) :: pn)).A.in1) rfl d1 (hz.2.2 v1 d1) _ l hne nx its.toArray, ⟨st, Heap.get?_push_of_some _ hget⟩, truth_bools hb, fun h' tk hk => ?_⟩
  refine ⟨.bl _, H, I.kept fun b o eo => hk b o (fun hmem => ?_) (Heap.get?_push_of_some _ eo), ?_, q⟩
  · rcases List.mem_cons.mp hmem with e1 | hmem
    · exact absurd (e1 ▸ Heap.lt_size eo) (Nat.lt_irrefl _)
    · cases hmem
  · show Value.bool _ = Value.bool _
    rw [← L2.any_range, hb, List.size_toArray, List.length_map]
section
variable {X : Cx} {CX : CXT} {k : Nat} {x m : Str} {C : Addr} {ps : List Str} {sp : Sp} {E : L2.St → XK} {e o : Expr} {es : List Expr} {t : TA} {ta : TE} {p pos apos : Pos}
/-- a call in a try's body -/
theorem pe_calS (c : Cal X.prog X.w X.K X.mg X.base CX k x ps sp) (hr : Room k X.A) (hx : ∀ σ, PassesAt CX X σ (E σ)) (ha : PA X (e :: es) t) (hg : Gl X x := by rfl)
    (hdb : (x == ("__debug__" : Str)) = false := by decide) (he : starEach (e :: es) X.env = (false, eval e X.env) :: starEach es X.env := by rfl) (hpl : (backTo pos (starEach es X.env)).any (·.1) = false := by rfl) :
    PE X (.Call (.Name x p) (e :: es) [] pos) (tCallS sp E t) := by
  obtain ⟨f, fd, F, hm, hk, hb⟩ := c
  exact pe_callS F hr hg hm hk hb hx ha hdb he hpl
theorem passE {X : Cx} {E : XK} (tk : L2N.Takes X (fun cls d _ H => E cls d H)) : Passes (L2N.CX X.prog X.w) X E := L2N.passes_call tk fun _ _ _ _ h => h
/-- isinstance of what the suite holds -/
def rIsX (K : PySem.W.Frag) (cls : Value) (d : Option Addr) (a : Addr) : List V → Hp → VK → Prop := fun xs H Q => ∃ D, cls = .ref D ∧ d = none ∧ ExcC K D ∧ rIsE K D a xs H Q
theorem call_isX (K : PySem.W.Frag) {a : Addr} {cls : Value} {d : Option Addr} {oe : Obj} {pn : List (Addr × Obj)} (hz : Zc cls d oe) (hf : ∃ vs, oe.data = .fields vs) (h : X.K = K := by rfl) :
    CallR (X.suite a ((a, oe) :: pn)) (.builtin "isinstance") (rIsX K cls d a) := by
  subst h
  intro pins s σ H xs us Q I r q
  obtain ⟨D, rfl, rfl, c, q⟩ := q
  exact call_isE c hz hf pins s σ H xs us Q I r q
end
section
variable {K : PySem.W.Frag} {σ : L2.St} {H H' : Hp} {te ta : TE} {tr : TA} {D : Ends}
/-- try: a call alone; except .. as a name -/
theorem st_tryDrop {sp : Sp} {vs : List V} {c : Value} {i : Nat} {ts : Addr → Value → Option Addr → TS} {Wout : WX} (h : EvA tr σ H vs) (hs : ∀ H1, Ex H H1 → sp vs H1 (fun _ H2 => D.nx σ H2) (fun cls d H2 => wAs K c i ts Wout D cls d σ H2)) :
    St (fun D σ H => tDrop (tCallS sp (WE (wAs K c i ts Wout D)) tr) D σ H) D σ H := fun H1 a => h H1 a _ fun H2 e2 => hs H2 (a.trans e2)
theorem st_tryDropQ {sp : Sp} {vs : List V} {c : Value} {i : Nat} {ts : Addr → Value → Option Addr → TS} {Wout : WX} {tz : TS} (h : EvA tr σ H vs) (hs : ∀ H1, Ex H H1 → sp vs H1 (fun _ H2 => tz D σ H2) (fun cls d H2 => wAs K c i ts Wout { D with nx := tz D } cls d σ H2)) :
    St (tSeq (fun D σ H => tDrop (tCallS sp (WE (wAs K c i ts Wout D)) tr) D σ H) tz) D σ H := fun H1 a => h H1 a _ fun H2 e2 => hs H2 (a.trans e2)
/-- what was caught, asked -/
theorem ev_isX {cls : Value} {a C D' : Addr} {b : Bool} (he : Ev te σ H (.ref a)) (hc : cls = .ref C) (x : ExcC K C) (q : PySem.W.kitOne K (.ref C) (.ref D') = some b) : Ev (tCB (rIsX K cls none a) (tCons te (tCons (tC (.ref D')) tNil))) σ H (.bl b) := fun H1 e Q r =>
  he H1 e _ fun H2 e2 => ⟨C, hc, rfl, x, .ref D', .ref D', b, rfl, fun u z => z, q, r H2 e2⟩
theorem ev_isXT {cls : Value} {a C : Addr} {T : String} {b : Bool} (he : Ev te σ H (.ref a)) (hc : cls = .ref C) (x : ExcC K C) (q : PySem.W.kitOne K (.ref C) (.type T) = some b) : Ev (tCB (rIsX K cls none a) (tCons te (tCons (tC (.ty T)) tNil))) σ H (.bl b) := fun H1 e Q r =>
  he H1 e _ fun H2 e2 => ⟨C, hc, rfl, x, .ty T, .type T, b, rfl, fun u z => z, q, r H2 e2⟩
/-- a raise -/
theorem st_raise {W : WX} {c : Value} (h : ∀ H1, Ex H H1 → W c none σ H1) : St (fun _ σ H => W c none σ H) D σ H := h
end
end Sw

namespace Sw
open PySem PySem.Spec PyProof.Rows L2 Evl
/-- the i-th statement of the text -/
def top (i : Nat) : Stmt := PySem.Challenge.pw_switchlamps_k08_texts_misread.main.body.getD i (.Pass ⟨0, 0, 0, 0⟩)
abbrev s_within : Stmt := top 11
abbrev s_House_init : Stmt := inClass (top 12) 0
abbrev s_House_switches : Stmt := inClass (top 12) 1
abbrev s_written : Stmt := top 14
abbrev s_read : Stmt := top 15
abbrev s__law_cell_at : Stmt := top 17
abbrev s__law_draw : Stmt := top 18
abbrev s__law_told : Stmt := top 19
abbrev s__law_refused : Stmt := top 25
abbrev s__law_writes : Stmt := top 26
abbrev s__law_right : Stmt := top 27
abbrev s__law_other : Stmt := top 28
abbrev s_law : Stmt := top 29
/-- the classes' addresses -/
structure Ad where
  House : Addr
  Press : Addr
  Even : Addr
  Answer : Addr
  LampError : Addr
  BadHouse : Addr
  BadLamps : Addr
  BadPress : Addr
  NoSwitch : Addr
  BadText : Addr
/-- what the top has written -/
structure Txt (K : PySem.W.Frag) (mg : Str → Option Value) (a : Ad) : Prop where
  g_LAMPS : ∃ t, mg "LAMPS" = some (.int 10 t)
  g_SWITCHES : ∃ t, mg "SWITCHES" = some (.int 8 t)
  n_ValueError : mg "ValueError" = none
  n_all : mg "all" = none
  n_any : mg "any" = none
  n_bool : mg "bool" = none
  n_int : mg "int" = none
  n_isinstance : mg "isinstance" = none
  n_len : mg "len" = none
  n_list : mg "list" = none
  n_range : mg "range" = none
  n_str : mg "str" = none
  n_sum : mg "sum" = none
  g_LampError : mg "LampError" = some (.ref a.LampError)
  g_BadHouse : mg "BadHouse" = some (.ref a.BadHouse)
  g_BadLamps : mg "BadLamps" = some (.ref a.BadLamps)
  g_BadPress : mg "BadPress" = some (.ref a.BadPress)
  g_NoSwitch : mg "NoSwitch" = some (.ref a.NoSwitch)
  g_BadText : mg "BadText" = some (.ref a.BadText)
  g_House : mg "House" = some (.ref a.House)
  cl_House : Cls K a.House
  a_House_lamps : NoAttr K a.House "lamps"
  a_House_turns : NoAttr K a.House "turns"
  d_within : Df K mg "within" "within" s_within
  d_House_init : DfK K mg a.House "House" "House.__init__" s_House_init
  d_House_switches : DfM K a.House "switches" "House.switches" s_House_switches
  d_written : Df K mg "written" "written" s_written
  d_read : Df K mg "read" "read" s_read
  d__law_cell_at : Df K mg "_law_cell_at" "_law_cell_at" s__law_cell_at
  d__law_draw : Df K mg "_law_draw" "_law_draw" s__law_draw
  d__law_told : Df K mg "_law_told" "_law_told" s__law_told
  d__law_refused : Df K mg "_law_refused" "_law_refused" s__law_refused
  d__law_writes : Df K mg "_law_writes" "_law_writes" s__law_writes
  d__law_right : Df K mg "_law_right" "_law_right" s__law_right
  d__law_other : Df K mg "_law_other" "_law_other" s__law_other
  d_law : Df K mg "law" "law" s_law
  x_BadText : PySem.W.excIn K a.BadText [.type "ValueError", .type "Exception", .type "BaseException", .type "object"] "ValueError.__new__" = true
  k_BadText : PySem.W.keepIn K (.ref a.BadText) = true
  b_BadText : PySem.W.subIn K (.ref a.BadText) (.type "BaseException") = some true
  t_BadText : PySem.W.typeIn K (.ref a.BadText) = some (.type "type")
  o_hn : PySem.W.specialIn K (.builtin "object.__class__") "__get__" = some (some (.builtin "getset_descriptor.__get__"))
  o_htk : PySem.W.takesIn K (.builtin "object.__class__") = some true
  lb : PySem.W.subIn K (.ref a.LampError) (.type "BaseException") = some true
  ld : PySem.W.hasDictIn K a.LampError = true
  lt : PySem.W.typeIn K (.ref a.LampError) = some (.type "type")
  eg_BadText : PySem.W.findIn K (.ref a.BadText) "__getattribute__" = some (some (.builtin "BaseException.__getattribute__"))
  ek_BadText : PySem.W.findIn K (.ref a.BadText) "__getattr__" = some none
  ed_BadText : PySem.W.hasDictIn K a.BadText = true
  ea_BadText : PySem.W.findIn K (.ref a.BadText) "__class__" = some (some (.builtin "object.__class__"))
  em_BadText : PySem.W.mroIn K a.BadText (.type "object") = some true
  es_BadText : PySem.W.subIn K (.ref a.BadText) (.ref a.LampError) = some true
  q_BadText_BadHouse : PySem.W.kitOne K (.ref a.BadText) (.ref a.BadHouse) = some false
  q_BadText_BadLamps : PySem.W.kitOne K (.ref a.BadText) (.ref a.BadLamps) = some false
  q_BadText_BadPress : PySem.W.kitOne K (.ref a.BadText) (.ref a.BadPress) = some false
  q_BadText_BadText : PySem.W.kitOne K (.ref a.BadText) (.ref a.BadText) = some true
  q_BadText_NoSwitch : PySem.W.kitOne K (.ref a.BadText) (.ref a.NoSwitch) = some false
  q_BadText_ValueError : PySem.W.kitOne K (.ref a.BadText) (.type "ValueError") = some true
theorem sc_within : FnScope ["number", "low", "high"] ["number", "low", "high"] (defScope s_within) := ⟨rfl, rfl, rfl, by decide +kernel, rfl, by decide +kernel, by decide +kernel⟩
theorem sc_House_init : FnScope ["self", "lamps", "switches", "one"] ["self", "lamps", "switches"] (defScope s_House_init) := ⟨rfl, rfl, rfl, by decide +kernel, rfl, by decide +kernel, by decide +kernel⟩
theorem sc_House_switches : FnScope ["self"] ["self"] (defScope s_House_switches) := ⟨rfl, rfl, rfl, by decide +kernel, rfl, by decide +kernel, by decide +kernel⟩
theorem sc_written : FnScope ["house", "rows", "one", "lamp"] ["house"] (defScope s_written) := ⟨rfl, rfl, rfl, by decide +kernel, rfl, by decide +kernel, by decide +kernel⟩
theorem sc_read : FnScope ["text", "rows", "lamps", "switches", "row", "sign", "lamp"] ["text"] (defScope s_read) := ⟨rfl, rfl, rfl, by decide +kernel, rfl, by decide +kernel, by decide +kernel⟩
theorem sc__law_cell_at : FnScope ["_law_script", "_law_k"] ["_law_script", "_law_k"] (defScope s__law_cell_at) := ⟨rfl, rfl, rfl, by decide +kernel, rfl, by decide +kernel, by decide +kernel⟩
theorem sc__law_draw : FnScope ["_law_cell", "_law_k", "_law_many", "_law_primes", "_law_blend"] ["_law_cell", "_law_k", "_law_many"] (defScope s__law_draw) := ⟨rfl, rfl, rfl, by decide +kernel, rfl, by decide +kernel, by decide +kernel⟩
theorem sc__law_told : FnScope ["_law_script", "_law_first", "_law_cell", "_law_other_here", "_law_lamps", "_law_many", "_law_switches", "_law_k", "_law_one"] ["_law_script", "_law_first"] (defScope s__law_told) := ⟨rfl, rfl, rfl, by decide +kernel, rfl, by decide +kernel, by decide +kernel⟩
theorem sc__law_refused : FnScope ["_law_text", "error", "_law_others"] ["_law_text"] (defScope s__law_refused) := ⟨rfl, rfl, rfl, by decide +kernel, rfl, by decide +kernel, by decide +kernel⟩
theorem sc__law_writes : FnScope ["_law_text", "_law_rows", "_law_at", "_law_sign"] ["_law_text"] (defScope s__law_writes) := ⟨rfl, rfl, rfl, by decide +kernel, rfl, by decide +kernel, by decide +kernel⟩
theorem sc__law_right : FnScope ["_law_text"] ["_law_text"] (defScope s__law_right) := ⟨rfl, rfl, rfl, by decide +kernel, rfl, by decide +kernel, by decide +kernel⟩
theorem sc__law_other : FnScope ["_law_text", "_law_cell", "_law_k", "_law_at", "_law_sign", "_law_way"] ["_law_text", "_law_cell", "_law_k"] (defScope s__law_other) := ⟨rfl, rfl, rfl, by decide +kernel, rfl, by decide +kernel, by decide +kernel⟩
theorem sc_law : FnScope ["_law_script", "_law_told_here", "_law_text", "_law_cell", "_law_few", "_law_other_here", "_law_k", "_law_thing"] ["_law_script"] (defScope s_law) := ⟨rfl, rfl, rfl, by decide +kernel, rfl, by decide +kernel, by decide +kernel⟩
end Sw

/-! Bits: xor over selections, parity, masks. -/
namespace Sw
theorem ind2 {P : Nat → Prop} (h0 : P 0) (hs : ∀ n, n ≠ 0 → P (n / 2) → P n) : ∀ n, P n := by
  intro n
  induction n using Nat.strongRecOn with
  | ind n ih =>
    by_cases h : n = 0
    · rw [h]
      exact h0
    · exact hs n h (ih (n / 2) (by omega))
theorem xor_mod2 (a b : Nat) : (a ^^^ b) % 2 = (a + b) % 2 := by
  have h := @Nat.xor_mod_two_eq_one a b
  omega
theorem add_xor : ∀ a b : Nat, a + b = (a ^^^ b) + 2 * (a &&& b) := by
  intro a
  induction a using Nat.strongRecOn with
  | ind a ih =>
    intro b
    by_cases h : a = 0
    · subst h
      simp
    · have i := ih (a / 2) (by omega) (b / 2)
      have x1 : (a ^^^ b) / 2 = a / 2 ^^^ b / 2 := Nat.xor_div_two
      have x2 := xor_mod2 a b
      have y1 : (a &&& b) / 2 = a / 2 &&& b / 2 := Nat.and_div_two
      have y2 := @Nat.and_mod_two_eq_one a b
      rw [← x1, ← y1] at i
      omega
theorem and_zero_add {a b : Nat} (h : a &&& b = 0) : a + b = a ^^^ b := by
  have := add_xor a b
  omega
/-! xor over a press -/
def turned (ts : List Nat) (p : List Nat) : Nat := p.foldl (fun a i => a ^^^ ts.getD i 0) 0
def xfold (z : Nat) (xs : List Nat) : Nat := xs.foldl (fun a x => a ^^^ x) z
theorem xfold_acc (z : Nat) : ∀ xs : List Nat, xfold z xs = z ^^^ xfold 0 xs
  | [] => by simp [xfold]
  | x :: xs => by
    show xfold (z ^^^ x) xs = z ^^^ xfold (0 ^^^ x) xs
    rw [xfold_acc (z ^^^ x) xs, xfold_acc (0 ^^^ x) xs, Nat.zero_xor, Nat.xor_assoc]
theorem turned_map (ts p : List Nat) : turned ts p = xfold 0 (p.map fun i => ts.getD i 0) := by
  unfold turned xfold
  rw [List.foldl_map]
theorem turned_nil (ts : List Nat) : turned ts [] = 0 := rfl
theorem turned_app (ts p q : List Nat) : turned ts (p ++ q) = turned ts p ^^^ turned ts q := by
  rw [turned_map, turned_map, turned_map, List.map_append]
  unfold xfold
  rw [List.foldl_append]
  exact xfold_acc _ _
theorem turned_snoc (ts p : List Nat) (i : Nat) : turned ts (p ++ [i]) = turned ts p ^^^ ts.getD i 0 := by
  unfold turned
  rw [List.foldl_append]
  rfl
theorem turned_cons (ts p : List Nat) (i : Nat) : turned ts (i :: p) = ts.getD i 0 ^^^ turned ts p := by
  have := turned_app ts [i] p
  rw [List.singleton_append] at this
  rw [this]
  unfold turned
  simp
theorem getD_lt {ts : List Nat} {L : Nat} (h : ∀ t ∈ ts, t < 2 ^ L) (i : Nat) : ts.getD i 0 < 2 ^ L := by
  rw [List.getD_eq_getElem?_getD]
  cases e : ts[i]? with
  | none => exact Nat.two_pow_pos L
  | some t => exact h t (List.mem_of_getElem? e)
theorem turned_lt {ts : List Nat} {L : Nat} (h : ∀ t ∈ ts, t < 2 ^ L) : ∀ p, turned ts p < 2 ^ L
  | [] => Nat.two_pow_pos L
  | i :: p => by
    rw [turned_cons]
    exact Nat.xor_lt_two_pow (getD_lt h i) (turned_lt h p)
/-- a press of m switches -/
def IsPress (m : Nat) (p : List Nat) : Prop := p.Pairwise (· < ·) ∧ ∀ i ∈ p, i < m
theorem take_snoc {α : Type} {l : List α} {i : Nat} {x : α} (h : l[i]? = some x) : l.take (i + 1) = l.take i ++ [x] := by
  rw [List.take_succ, h]
  rfl
end Sw

/-! Counting bits; parity; masks; what a press's list says. -/
namespace Sw
def popc (n : Nat) : Nat := if h : n = 0 then 0 else n % 2 + popc (n / 2)
termination_by n
theorem popc_zero : popc 0 = 0 := by rw [popc]; rfl
theorem popc_rec {n : Nat} : popc n = n % 2 + popc (n / 2) := by
  by_cases h : n = 0
  · subst h
    rw [popc_zero]
  · rw [popc, dif_neg h]
theorem popc_le (n : Nat) : popc n ≤ n := by
  induction n using ind2 with
  | h0 => rw [popc_zero]; exact Nat.le_refl _
  | hs n h ih =>
    rw [popc_rec]
    omega
/-- an odd number of bits -/
def par (n : Nat) : Bool := decide (popc n % 2 = 1)
theorem par_zero : par 0 = false := by unfold par; rw [popc_zero]; rfl
theorem par_rec (n : Nat) : par n = xor (decide (n % 2 = 1)) (par (n / 2)) := by
  unfold par
  rw [popc_rec (n := n)]
  by_cases h1 : n % 2 = 1 <;> by_cases h2 : popc (n / 2) % 2 = 1 <;> simp [h1, h2] <;> omega
theorem popc_pred : ∀ n : Nat, n ≠ 0 → popc (n &&& (n - 1)) + 1 = popc n := by
  intro n
  induction n using ind2 with
  | h0 => intro h; exact absurd rfl h
  | hs n h ih =>
    intro _
    have y1 : (n &&& (n - 1)) / 2 = n / 2 &&& (n - 1) / 2 := Nat.and_div_two
    have y2 := @Nat.and_mod_two_eq_one n (n - 1)
    rw [popc_rec (n := n &&& (n - 1)), popc_rec (n := n), y1]
    by_cases h1 : n % 2 = 1
    · have e : (n - 1) / 2 = n / 2 := by omega
      rw [e, Nat.and_self]
      omega
    · have e : (n - 1) / 2 = n / 2 - 1 := by omega
      rw [e]
      have := ih (by omega)
      omega
theorem par_pred {n : Nat} (h : n ≠ 0) : par (n &&& (n - 1)) = !par n := by
  have := popc_pred n h
  unfold par
  by_cases h1 : popc n % 2 = 1
  · rw [decide_eq_true h1, decide_eq_false (by omega)]
    rfl
  · rw [decide_eq_false h1, decide_eq_true (by omega)]
    rfl
theorem par_xor : ∀ a b : Nat, par (a ^^^ b) = xor (par a) (par b) := by
  intro a
  induction a using Nat.strongRecOn with
  | ind a ih =>
    intro b
    by_cases h : a = 0
    · subst h
      rw [Nat.zero_xor, par_zero, Bool.false_xor]
    · have x1 : (a ^^^ b) / 2 = a / 2 ^^^ b / 2 := Nat.xor_div_two
      have x2 := xor_mod2 a b
      rw [par_rec (a ^^^ b), x1, ih (a / 2) (by omega), par_rec a, par_rec b]
      have e : decide ((a ^^^ b) % 2 = 1) = xor (decide (a % 2 = 1)) (decide (b % 2 = 1)) := by
        by_cases h1 : a % 2 = 1 <;> by_cases h2 : b % 2 = 1 <;> simp [h1, h2] <;> omega
      rw [e]
      cases decide (a % 2 = 1) <;> cases decide (b % 2 = 1) <;> cases par (a / 2) <;> cases par (b / 2) <;> rfl
/-! a press's list as it stands -/
def chk (m : Nat) : Int → List Int → Bool
  | _, [] => true
  | last, x :: r => decide (last < x ∧ x < (m : Int)) && chk m x r
def bringsB (ts : List Nat) (ps : List Int) (d k : Nat) : Bool := chk ts.length (-1) ps && decide ((d ^^^ turned ts (ps.map Int.toNat)) &&& k = 0)
def nint (ns : List Nat) : List Int := ns.map fun n : Nat => (n : Int)
theorem chk_nn (m : Nat) : ∀ (ps : List Int) (last : Int), -1 ≤ last → chk m last ps = true → ps = nint (ps.map Int.toNat) ∧ (∀ i ∈ ps.map Int.toNat, i < m ∧ last < (i : Int)) ∧ (ps.map Int.toNat).Pairwise (· < ·)
  | [], _, _, _ => ⟨rfl, (fun _ h => nomatch h), .nil⟩
  | x :: r, last, hl, h => by
    simp only [chk, Bool.and_eq_true, decide_eq_true_eq] at h
    obtain ⟨⟨h1, h2⟩, h3⟩ := h
    obtain ⟨i1, i2, i3⟩ := chk_nn m r x (by omega) h3
    refine ⟨?_, ?_, ?_⟩
    · unfold nint at i1 ⊢
      rw [List.map_cons, List.map_cons, ← i1, Int.toNat_of_nonneg (by omega)]
    · intro i hi
      rw [List.map_cons] at hi
      rcases List.mem_cons.mp hi with e | hi
      · rw [e]
        omega
      · have := i2 i hi
        omega
    · rw [List.map_cons]
      refine List.pairwise_cons.mpr ⟨fun i hi => ?_, i3⟩
      have := i2 i hi
      omega
theorem chk_press {m : Nat} {ps : List Int} (h : chk m (-1) ps = true) : ps = nint (ps.map Int.toNat) ∧ IsPress m (ps.map Int.toNat) := by
  obtain ⟨h1, h2, h3⟩ := chk_nn m ps (-1) (by omega) h
  exact ⟨h1, h3, fun i hi => (h2 i hi).1⟩
theorem chk_of_nat (m : Nat) : ∀ (ns : List Nat) (last : Int), (∀ i ∈ ns, i < m ∧ last < (i : Int)) → ns.Pairwise (· < ·) → chk m last (nint ns) = true
  | [], _, _, _ => rfl
  | n :: ns, last, h, p => by
    have p' := List.pairwise_cons.mp p
    have h1 := h n List.mem_cons_self
    show (decide (last < (n : Int) ∧ (n : Int) < (m : Int)) && chk m n (nint ns)) = true
    rw [chk_of_nat m ns n (fun i hi => ⟨(h i (List.mem_cons_of_mem _ hi)).1, by have := p'.1 i hi; omega⟩) p'.2, decide_eq_true (by omega)]
    rfl
theorem chk_of_press {m : Nat} {ns : List Nat} (h : IsPress m ns) : chk m (-1) (nint ns) = true := chk_of_nat m ns (-1) (fun i hi => ⟨h.2 i hi, by omega⟩) h.1
theorem nint_toNat (ns : List Nat) : (nint ns).map Int.toNat = ns := by
  unfold nint
  rw [List.map_map]
  have : (Int.toNat ∘ fun n : Nat => (n : Int)) = id := by
    funext n
    exact Int.toNat_natCast n
  rw [this, List.map_id]
theorem chk_app (m : Nat) : ∀ (ps qs : List Int) (last : Int), chk m last (ps ++ qs) = (chk m last ps && chk m ((last :: ps).getLastD 0) qs)
  | [], qs, last => by simp [chk]
  | x :: r, qs, last => by
    rw [List.cons_append]
    simp only [chk]
    rw [chk_app m r qs x, Bool.and_assoc]
    rfl
end Sw

/-! Sums of selections; spans; echelon rows; what bars. -/
namespace Sw
/-! rising lists -/
theorem rising_ext : ∀ {p q : List Nat}, p.Pairwise (· < ·) → q.Pairwise (· < ·) → (∀ i, i ∈ p ↔ i ∈ q) → p = q := by
  intro p q hp hq h
  have np : p.Nodup := List.Pairwise.imp (fun h => Nat.ne_of_lt h) hp
  have nq : q.Nodup := List.Pairwise.imp (fun h => Nat.ne_of_lt h) hq
  exact List.Perm.eq_of_pairwise (le := (· < ·)) (fun a b _ _ h1 h2 => absurd h1 (Nat.lt_asymm h2)) hp hq ((List.perm_ext_iff_of_nodup np nq).mpr h)
/-- the places of the bits -/
def bits (n : Nat) : List Nat := (List.range n).filter n.testBit
theorem testBit_lt {n i : Nat} (h : n.testBit i = true) : i < n := Nat.lt_of_lt_of_le (Nat.lt_two_pow_self) (Nat.ge_two_pow_of_testBit h)
theorem mem_bits {n i : Nat} : i ∈ bits n ↔ n.testBit i = true := by
  unfold bits
  rw [List.mem_filter, List.mem_range]
  exact ⟨fun h => h.2, fun h => ⟨testBit_lt h, h⟩⟩
theorem bits_rising (n : Nat) : (bits n).Pairwise (· < ·) := List.Pairwise.filter _ List.pairwise_lt_range
theorem bits_eq {m n : Nat} (h : n < 2 ^ m) : (List.range m).filter n.testBit = bits n := by
  refine rising_ext (List.Pairwise.filter _ List.pairwise_lt_range) (bits_rising n) fun i => ?_
  rw [mem_bits, List.mem_filter, List.mem_range]
  refine ⟨fun h => h.2, fun hb => ⟨?_, hb⟩⟩
  by_cases hi : i < m
  · exact hi
  · have := Nat.ge_two_pow_of_testBit hb
    have := Nat.pow_le_pow_right (n := 2) (by decide) (show m ≤ i by omega)
    omega
theorem bits_press {m n : Nat} (h : n < 2 ^ m) : IsPress m (bits n) := by
  rw [← bits_eq h]
  refine ⟨List.Pairwise.filter _ List.pairwise_lt_range, fun i hi => ?_⟩
  exact List.mem_range.mp (List.mem_filter.mp hi).1
/-- the bits at places -/
def mask (p : List Nat) : Nat := p.foldr (fun i a => 2 ^ i ^^^ a) 0
theorem mask_cons (i : Nat) (p : List Nat) : mask (i :: p) = 2 ^ i ^^^ mask p := rfl
theorem mask_bit : ∀ {p : List Nat}, p.Nodup → ∀ i, (mask p).testBit i = decide (i ∈ p)
  | [], _, i => by
    show (0 : Nat).testBit i = _
    rw [Nat.zero_testBit]
    rfl
  | j :: p, h, i => by
    have h' := List.nodup_cons.mp h
    rw [mask_cons, Nat.testBit_xor, Nat.testBit_two_pow, mask_bit h'.2 i]
    by_cases e : j = i
    · subst e
      rw [decide_eq_true rfl, decide_eq_false h'.1, decide_eq_true List.mem_cons_self]
      rfl
    · rw [decide_eq_false e]
      have : (i ∈ j :: p) ↔ i ∈ p := by
        rw [List.mem_cons]
        exact ⟨fun h => h.resolve_left (fun z => e z.symm), .inr⟩
      rw [decide_eq_decide.mpr this]
      cases decide (i ∈ p) <;> rfl
theorem rising_nodup {p : List Nat} (h : p.Pairwise (· < ·)) : p.Nodup := List.Pairwise.imp (fun h => Nat.ne_of_lt h) h
theorem mask_bits (n : Nat) : mask (bits n) = n := by
  apply Nat.eq_of_testBit_eq
  intro i
  rw [mask_bit (rising_nodup (bits_rising n))]
  cases e : n.testBit i with
  | true => exact decide_eq_true (mem_bits.mpr e)
  | false =>
    refine decide_eq_false fun h => ?_
    rw [mem_bits, e] at h
    cases h
theorem bits_mask {p : List Nat} (h : p.Pairwise (· < ·)) : bits (mask p) = p := by
  refine rising_ext (bits_rising _) h fun i => ?_
  rw [mem_bits, mask_bit (rising_nodup h), decide_eq_true_eq]
theorem mask_lt : ∀ {p : List Nat} {m : Nat}, (∀ i ∈ p, i < m) → mask p < 2 ^ m
  | [], m, _ => Nat.two_pow_pos m
  | i :: p, m, h => Nat.xor_lt_two_pow (Nat.pow_lt_pow_right (by decide) (h i List.mem_cons_self)) (mask_lt fun j hj => h j (List.mem_cons_of_mem _ hj))
theorem mask_press {m : Nat} {p : List Nat} (h : IsPress m p) : mask p < 2 ^ m ∧ bits (mask p) = p := ⟨mask_lt h.2, bits_mask h.1⟩
theorem mask_and (i : Nat) (p : List Nat) (h : (i :: p).Nodup) : 2 ^ i &&& mask p = 0 := by
  apply Nat.eq_of_testBit_eq
  intro j
  rw [Nat.testBit_and, Nat.testBit_two_pow, mask_bit (List.nodup_cons.mp h).2, Nat.zero_testBit]
  by_cases e : i = j
  · subst e
    rw [decide_eq_false (List.nodup_cons.mp h).1]
    exact Bool.and_false _
  · rw [decide_eq_false e]
    rfl
theorem sum_mask : ∀ {p : List Nat}, p.Nodup → (p.map fun i => 2 ^ i).sum = mask p
  | [], _ => rfl
  | i :: p, h => by
    rw [List.map_cons, List.sum_cons, sum_mask (List.nodup_cons.mp h).2, mask_cons]
    exact and_zero_add (mask_and i p h)
/-! selections -/
def xsel : List Nat → Nat → Nat
  | [], _ => 0
  | t :: ts, w => (if w % 2 = 1 then t else 0) ^^^ xsel ts (w / 2)
theorem x4 (a b c d : Nat) : (a ^^^ b) ^^^ (c ^^^ d) = (a ^^^ c) ^^^ (b ^^^ d) := by
  apply Nat.eq_of_testBit_eq
  intro i
  simp only [Nat.testBit_xor]
  cases a.testBit i <;> cases b.testBit i <;> cases c.testBit i <;> cases d.testBit i <;> rfl
theorem xsel_xor : ∀ (ts : List Nat) (a b : Nat), xsel ts (a ^^^ b) = xsel ts a ^^^ xsel ts b
  | [], a, b => by simp [xsel]
  | t :: ts, a, b => by
    have x1 : (a ^^^ b) / 2 = a / 2 ^^^ b / 2 := Nat.xor_div_two
    have x2 := xor_mod2 a b
    show (if (a ^^^ b) % 2 = 1 then t else 0) ^^^ xsel ts ((a ^^^ b) / 2) = ((if a % 2 = 1 then t else 0) ^^^ xsel ts (a / 2)) ^^^ ((if b % 2 = 1 then t else 0) ^^^ xsel ts (b / 2))
    rw [x1, xsel_xor ts, x4]
    congr 1
    by_cases h1 : a % 2 = 1 <;> by_cases h2 : b % 2 = 1
    · rw [if_pos h1, if_pos h2, if_neg (by omega), Nat.xor_self]
    · rw [if_pos h1, if_neg h2, if_pos (by omega), Nat.xor_zero]
    · rw [if_neg h1, if_pos h2, if_pos (by omega), Nat.zero_xor]
    · rw [if_neg h1, if_neg h2, if_neg (by omega), Nat.xor_zero]
theorem xsel_zero : ∀ ts : List Nat, xsel ts 0 = 0
  | [] => rfl
  | t :: ts => by
    show (if 0 % 2 = 1 then t else 0) ^^^ xsel ts (0 / 2) = 0
    rw [if_neg (by decide), Nat.zero_div, xsel_zero ts, Nat.xor_zero]
theorem xsel_pow : ∀ (ts : List Nat) (i : Nat), xsel ts (2 ^ i) = ts.getD i 0
  | [], i => by simp [xsel]
  | t :: ts, 0 => by
    show (if 1 % 2 = 1 then t else 0) ^^^ xsel ts (1 / 2) = t
    rw [if_pos (by decide), show 1 / 2 = 0 from rfl, xsel_zero, Nat.xor_zero]
  | t :: ts, i + 1 => by
    have h : 2 ^ (i + 1) = 2 * 2 ^ i := Nat.pow_succ'
    show (if 2 ^ (i + 1) % 2 = 1 then t else 0) ^^^ xsel ts (2 ^ (i + 1) / 2) = ts.getD i 0
    rw [if_neg (by omega), h, Nat.mul_div_cancel_left _ (by decide), xsel_pow ts i, Nat.zero_xor]
theorem turned_mask (ts : List Nat) : ∀ p : List Nat, turned ts p = xsel ts (mask p)
  | [] => (xsel_zero ts).symm
  | i :: p => by rw [turned_cons, mask_cons, xsel_xor, xsel_pow, turned_mask ts p]
theorem turned_bits (ts : List Nat) (w : Nat) : turned ts (bits w) = xsel ts w := by rw [turned_mask, mask_bits]
theorem xsel_app1 : ∀ (ts : List Nat) (t w : Nat), w < 2 ^ ts.length → xsel (ts ++ [t]) w = xsel ts w
  | [], t, w, h => by
    have : w = 0 := by
      simp only [List.length_nil, Nat.pow_zero] at h
      omega
    subst this
    show (if 0 % 2 = 1 then t else 0) ^^^ 0 = 0
    rw [if_neg (by decide), Nat.xor_zero]
  | s :: ts, t, w, h => by
    show (if w % 2 = 1 then s else 0) ^^^ xsel (ts ++ [t]) (w / 2) = (if w % 2 = 1 then s else 0) ^^^ xsel ts (w / 2)
    have h2 : 2 ^ (s :: ts).length = 2 * 2 ^ ts.length := Nat.pow_succ'
    rw [xsel_app1 ts t (w / 2) (by omega)]
theorem xsel_lt {ts : List Nat} {L : Nat} (h : ∀ t ∈ ts, t < 2 ^ L) (w : Nat) : xsel ts w < 2 ^ L := by
  rw [← turned_bits]
  exact turned_lt h _
/-! spans -/
inductive Span (S : List Nat) : Nat → Prop
  | zero : Span S 0
  | add {a b : Nat} : a ∈ S → Span S b → Span S (a ^^^ b)
theorem Span.mem {S : List Nat} {a : Nat} (h : a ∈ S) : Span S a := by
  have := Span.add h Span.zero
  rw [Nat.xor_zero] at this
  exact this
theorem Span.xor {S : List Nat} {a b : Nat} (ha : Span S a) (hb : Span S b) : Span S (a ^^^ b) := by
  induction ha with
  | zero => rw [Nat.zero_xor]; exact hb
  | add h _ ih => rw [Nat.xor_assoc]; exact .add h ih
theorem Span.trans {S T : List Nat} {a : Nat} (h : ∀ s ∈ S, Span T s) (ha : Span S a) : Span T a := by
  induction ha with
  | zero => exact .zero
  | add m _ ih => exact (h _ m).xor ih
theorem Span.mono {S T : List Nat} {a : Nat} (h : ∀ s ∈ S, s ∈ T) (ha : Span S a) : Span T a := ha.trans fun s hs => .mem (h s hs)
theorem sp_xsel : ∀ (ts : List Nat) (w : Nat), Span ts (xsel ts w)
  | [], _ => .zero
  | t :: ts, w => by
    show Span (t :: ts) ((if w % 2 = 1 then t else 0) ^^^ xsel ts (w / 2))
    have h := (sp_xsel ts (w / 2)).mono (T := t :: ts) fun s hs => List.mem_cons_of_mem _ hs
    by_cases e : w % 2 = 1
    · rw [if_pos e]
      exact .add List.mem_cons_self h
    · rw [if_neg e, Nat.zero_xor]
      exact h
theorem sp_sel {ts : List Nat} {a : Nat} (h : Span ts a) : ∃ w, w < 2 ^ ts.length ∧ xsel ts w = a := by
  induction h with
  | zero => exact ⟨0, Nat.two_pow_pos _, xsel_zero _⟩
  | add m _ ih =>
    obtain ⟨w, h1, h2⟩ := ih
    obtain ⟨i, hi, e⟩ := List.getElem_of_mem m
    refine ⟨2 ^ i ^^^ w, Nat.xor_lt_two_pow (Nat.pow_lt_pow_right (by decide) hi) h1, ?_⟩
    rw [xsel_xor, xsel_pow, h2, List.getD_eq_getElem?_getD, List.getElem?_eq_getElem hi, e]
    rfl
theorem sp_cons {r : Nat} {rs : List Nat} {y : Nat} (h : Span (r :: rs) y) : ∃ b : Bool, ∃ z, Span rs z ∧ y = (if b then r else 0) ^^^ z := by
  induction h with
  | zero => exact ⟨false, 0, .zero, by simp⟩
  | @add a b m _ ih =>
    obtain ⟨c, z, hz, rfl⟩ := ih
    rcases List.mem_cons.mp m with e | m
    · subst e
      refine ⟨!c, z, hz, ?_⟩
      cases c
      · simp
      · simp only [if_true, Bool.not_true, Bool.false_eq_true, if_false]
        rw [← Nat.xor_assoc, Nat.xor_self]
    · refine ⟨c, a ^^^ z, .add m hz, ?_⟩
      rw [← Nat.xor_assoc, ← Nat.xor_assoc, Nat.xor_comm a]
/-- parity against x goes over to sums -/
theorem sp_even {S : List Nat} {x a : Nat} (h : ∀ s ∈ S, par (s &&& x) = false) (ha : Span S a) : par (a &&& x) = false := by
  induction ha with
  | zero => rw [Nat.zero_and]; exact par_zero
  | add m _ ih => rw [Nat.and_xor_distrib_right, par_xor, h _ m, ih]; rfl
/-! highest bits -/
theorem lt_log2 {a b : Nat} (h : a.log2 < b.log2) : a < 2 ^ b.log2 := by
  by_cases e : a = 0
  · rw [e]
    exact Nat.two_pow_pos _
  · exact (Nat.log2_lt e).mp h
theorem log2_bit {a b : Nat} (h : a.log2 < b.log2) : a.testBit b.log2 = false := Nat.testBit_lt_two_pow (lt_log2 h)
theorem log2_of_lt {a b : Nat} (h : a < b) (ha : a ≠ 0) : a.log2 ≤ b.log2 := by
  have h2 := Nat.lt_log2_self (n := b)
  have : a.log2 < b.log2 + 1 := (Nat.log2_lt ha).mpr (by omega)
  omega
theorem lt_of_bits {n m : Nat} (i : Nat) (h1 : n.testBit i = false) (h2 : m.testBit i = true) (h : ∀ j, i < j → n.testBit j = m.testBit j) : n < m := by
  have e : n / 2 ^ (i + 1) = m / 2 ^ (i + 1) := by
    apply Nat.eq_of_testBit_eq
    intro j
    rw [Nat.testBit_div_two_pow, Nat.testBit_div_two_pow]
    exact h _ (by omega)
  have d : ∀ k : Nat, k / 2 ^ (i + 1) = k / 2 ^ i / 2 := fun k => by rw [Nat.pow_succ, Nat.div_div_eq_div_mul]
  have b : ∀ k : Nat, k.testBit i = decide (k / 2 ^ i % 2 = 1) := fun k => by
    have := Nat.testBit_div_two_pow (n := i) k 0
    rw [Nat.zero_add] at this
    rw [← this, Nat.testBit_zero]
  rw [b] at h1 h2
  have h1 := of_decide_eq_false h1
  have h2 := of_decide_eq_true h2
  rw [d, d] at e
  have lt : n / 2 ^ i < m / 2 ^ i := by omega
  exact Nat.lt_of_div_lt_div lt
/-- xor makes less where the highest bit is set -/
theorem xor_lt_iff {t r : Nat} (hr : 0 < r) : t ^^^ r < t ↔ t.testBit r.log2 = true := by
  have hb := Nat.testBit_log2 (n := r) (by omega)
  have hi : ∀ j, r.log2 < j → r.testBit j = false := fun j hj => by
    refine Nat.testBit_lt_two_pow (Nat.lt_of_lt_of_le Nat.lt_log2_self (Nat.pow_le_pow_right (by decide) hj))
  constructor
  · intro h
    cases e : t.testBit r.log2 with
    | true => rfl
    | false =>
      have : t < t ^^^ r := by
        refine lt_of_bits r.log2 e ?_ fun j hj => ?_
        · rw [Nat.testBit_xor, e, hb]
          rfl
        · rw [Nat.testBit_xor, hi j hj, Bool.xor_false]
      omega
  · intro h
    refine lt_of_bits r.log2 ?_ h fun j hj => ?_
    · rw [Nat.testBit_xor, h, hb]
      rfl
    · rw [Nat.testBit_xor, hi j hj, Bool.xor_false]
/-- rows, each with a highest bit of its own, from above -/
def Ech (rs : List Nat) : Prop := rs.Pairwise (fun a b => b.log2 < a.log2) ∧ ∀ r ∈ rs, 0 < r
theorem Ech.tail {r : Nat} {rs : List Nat} (h : Ech (r :: rs)) : Ech rs := ⟨(List.pairwise_cons.mp h.1).2, fun s hs => h.2 s (List.mem_cons_of_mem _ hs)⟩
/-- none of the highest bits is set -/
def Clear (rs : List Nat) (t : Nat) : Prop := ∀ r ∈ rs, t.testBit r.log2 = false
theorem clear_zero {rs : List Nat} {y : Nat} (h : Ech rs) (hy : Span rs y) (c : Clear rs y) : y = 0 := by
  induction rs generalizing y with
  | nil => cases hy with
    | zero => rfl
    | add m _ => cases m
  | cons r rs ih =>
    obtain ⟨b, z, hz, rfl⟩ := sp_cons hy
    have hp := List.pairwise_cons.mp h.1
    have hzb : z.testBit r.log2 = false := by
      clear c ih hy
      induction hz with
      | zero => rw [Nat.zero_testBit]
      | add m _ ih => rw [Nat.testBit_xor, ih, log2_bit (hp.1 _ m)]; rfl
    have hb := Nat.testBit_log2 (n := r) (by have := h.2 r List.mem_cons_self; omega)
    have c1 := c r List.mem_cons_self
    cases b with
    | true =>
      rw [if_pos rfl, Nat.testBit_xor, hb, hzb] at c1
      cases c1
    | false =>
      have e : (if false = true then r else 0) ^^^ z = z := by simp
      rw [e] at c ⊢
      exact ih h.tail hz fun s hs => c s (List.mem_cons_of_mem _ hs)
/-- a row taken off where its highest bit is set, with the selection -/
def stepR (tw : Nat × Nat) (r : Nat × Nat) : Nat × Nat := if tw.1 ^^^ r.1 < tw.1 then (tw.1 ^^^ r.1, tw.2 ^^^ r.2) else tw
theorem red_spec {ns : List Nat} : ∀ (rs : List (Nat × Nat)) (t w : Nat), Ech (rs.map (·.1)) → (∀ r ∈ rs, xsel ns r.2 = r.1 ∧ r.2 < 2 ^ ns.length) →
    ∃ z v, rs.foldl stepR (t, w) = (t ^^^ z, w ^^^ v) ∧ Span (rs.map (·.1)) z ∧ xsel ns v = z ∧ v < 2 ^ ns.length ∧ Clear (rs.map (·.1)) (t ^^^ z)
  | [], t, w, _, _ => ⟨0, 0, by simp, .zero, xsel_zero _, Nat.two_pow_pos _, fun _ h => nomatch h⟩
  | r :: rs, t, w, he, hs => by
    have hp := List.pairwise_cons.mp he.1
    have hr0 : 0 < r.1 := he.2 _ List.mem_cons_self
    have hb := Nat.testBit_log2 (n := r.1) (by omega)
    have hs1 := hs r List.mem_cons_self
    -- after the first row, its highest bit is off
    have key : ∀ t1 w1 : Nat, t1.testBit r.1.log2 = false → ∃ z v, rs.foldl stepR (t1, w1) = (t1 ^^^ z, w1 ^^^ v) ∧ Span (rs.map (·.1)) z ∧ xsel ns v = z ∧ v < 2 ^ ns.length ∧ Clear ((r :: rs).map (·.1)) (t1 ^^^ z) := fun t1 w1 h1 => by
      obtain ⟨z, v, e, sz, sv, lv, cl⟩ := red_spec rs t1 w1 he.tail fun s hs' => hs s (List.mem_cons_of_mem _ hs')
      refine ⟨z, v, e, sz, sv, lv, fun s hs' => ?_⟩
      rcases List.mem_cons.mp hs' with rfl | hs'
      · have hzb : z.testBit r.1.log2 = false := by
          clear e sv lv cl
          induction sz with
          | zero => rw [Nat.zero_testBit]
          | add m _ ih => rw [Nat.testBit_xor, ih, log2_bit (hp.1 _ m)]; rfl
        rw [Nat.testBit_xor, h1, hzb]
        rfl
      · exact cl s hs'
    rw [List.foldl_cons]
    by_cases hlt : t ^^^ r.1 < t
    · have h1 : (t ^^^ r.1).testBit r.1.log2 = false := by
        rw [Nat.testBit_xor, (xor_lt_iff hr0).mp hlt, hb]
        rfl
      obtain ⟨z, v, e, sz, sv, lv, cl⟩ := key (t ^^^ r.1) (w ^^^ r.2) h1
      refine ⟨r.1 ^^^ z, r.2 ^^^ v, ?_, .add List.mem_cons_self (sz.mono fun s hs' => List.mem_cons_of_mem _ hs'), ?_, Nat.xor_lt_two_pow hs1.2 lv, ?_⟩
      · show rs.foldl stepR (stepR (t, w) r) = _
        have e1 : stepR (t, w) r = (t ^^^ r.1, w ^^^ r.2) := if_pos hlt
        rw [e1, e, Nat.xor_assoc, Nat.xor_assoc]
      · rw [xsel_xor, hs1.1, sv]
      · rw [← Nat.xor_assoc]
        exact cl
    · have h1 : t.testBit r.1.log2 = false := by
        cases e : t.testBit r.1.log2 with
        | false => rfl
        | true => exact absurd ((xor_lt_iff hr0).mpr e) hlt
      obtain ⟨z, v, e, sz, sv, lv, cl⟩ := key t w h1
      refine ⟨z, v, ?_, sz.mono fun s hs' => List.mem_cons_of_mem _ hs', sv, lv, cl⟩
      have e1 : stepR (t, w) r = (t, w) := if_neg hlt
      rw [e1, e]
/-- the rows of some numbers -/
structure RowsOk (ns : List Nat) (rs : List (Nat × Nat)) : Prop where
  ech : Ech (rs.map (·.1))
  sel : ∀ r ∈ rs, xsel ns r.2 = r.1 ∧ r.2 < 2 ^ ns.length
  all : ∀ n ∈ ns, Span (rs.map (·.1)) n
theorem RowsOk.nil : RowsOk [] [] := ⟨⟨.nil, (fun _ h => nomatch h)⟩, (fun _ h => nomatch h), (fun _ h => nomatch h)⟩
theorem RowsOk.sub {ns : List Nat} {rs : List (Nat × Nat)} (h : RowsOk ns rs) {a : Nat} (ha : Span (rs.map (·.1)) a) : Span ns a := ha.trans fun s hs => by
  obtain ⟨r, hr, rfl⟩ := List.mem_map.mp hs
  rw [← (h.sel r hr).1]
  exact sp_xsel _ _
theorem RowsOk.sup {ns : List Nat} {rs : List (Nat × Nat)} (h : RowsOk ns rs) {a : Nat} (ha : Span ns a) : Span (rs.map (·.1)) a := ha.trans h.all
/-- what a wanted one leaves -/
theorem RowsOk.red {ns : List Nat} {rs : List (Nat × Nat)} (h : RowsOk ns rs) (t w : Nat) : ∃ z v, rs.foldl stepR (t, w) = (t ^^^ z, w ^^^ v) ∧ xsel ns v = z ∧ v < 2 ^ ns.length ∧ Span ns z ∧ Clear (rs.map (·.1)) (t ^^^ z) ∧ (Span ns t ↔ t ^^^ z = 0) := by
  obtain ⟨z, v, e, sz, sv, lv, cl⟩ := red_spec rs t w h.ech h.sel
  refine ⟨z, v, e, sv, lv, h.sub sz, cl, fun ht => ?_, fun e0 => ?_⟩
  · exact clear_zero h.ech ((h.sup ht).xor sz) cl
  · have : t = z := by
      have h1 : (t ^^^ z) ^^^ z = t := by rw [Nat.xor_assoc, Nat.xor_self, Nat.xor_zero]
      rw [e0, Nat.zero_xor] at h1
      exact h1.symm
    rw [this]
    exact h.sub sz
/-- one more number: rs', the rows that are sorted from above, maybe with the rest -/
def prGeN (r s : Nat × Nat) : Bool := !decide (r.1 < s.1 ∨ (r.1 = s.1 ∧ r.2 < s.2))
theorem prGeN_trans (a b c : Nat × Nat) : prGeN a b = true → prGeN b c = true → prGeN a c = true := by
  unfold prGeN
  simp only [Bool.not_eq_true', decide_eq_false_iff_not]
  intro h1 h2 h3
  omega
theorem prGeN_total (a b : Nat × Nat) : (prGeN a b || prGeN b a) = true := by
  unfold prGeN
  simp only [Bool.or_eq_true, Bool.not_eq_true', decide_eq_false_iff_not]
  omega
theorem RowsOk.lift {ns : List Nat} {rs : List (Nat × Nat)} (h : RowsOk ns rs) {n : Nat} (hn : Span (rs.map (·.1)) n) : RowsOk (ns ++ [n]) rs := by
  refine ⟨h.ech, fun r hr => ?_, fun m hm => ?_⟩
  · obtain ⟨h1, h2⟩ := h.sel r hr
    refine ⟨by rw [xsel_app1 _ _ _ h2]; exact h1, ?_⟩
    rw [List.length_append]
    exact Nat.lt_of_lt_of_le h2 (Nat.pow_le_pow_right (by decide) (Nat.le_add_right _ _))
  · rcases List.mem_append.mp hm with hm | hm
    · exact h.all m hm
    · rw [List.mem_singleton.mp hm]
      exact hn
theorem RowsOk.more {ns : List Nat} {rs : List (Nat × Nat)} (h : RowsOk ns rs) {n z v : Nat} (sz : Span ns z) (sv : xsel ns v = z) (lv : v < 2 ^ ns.length) (cl : Clear (rs.map (·.1)) (n ^^^ z)) (h0 : 0 < n ^^^ z) :
    RowsOk (ns ++ [n]) ((rs ++ [(n ^^^ z, 2 ^ ns.length ^^^ v)]).mergeSort prGeN) := by
  have hperm := List.mergeSort_perm (rs ++ [(n ^^^ z, 2 ^ ns.length ^^^ v)]) prGeN
  have hsort := List.pairwise_mergeSort prGeN_trans prGeN_total (rs ++ [(n ^^^ z, 2 ^ ns.length ^^^ v)])
  have hne : ∀ r ∈ rs, r.1.log2 ≠ (n ^^^ z).log2 := fun r hr e => by
    have c := cl r.1 (List.mem_map.mpr ⟨r, hr, rfl⟩)
    rw [e, Nat.testBit_log2 (by omega)] at c
    cases c
  have hpos : ∀ r ∈ rs ++ [(n ^^^ z, 2 ^ ns.length ^^^ v)], 0 < r.1 := fun r hr => by
    rcases List.mem_append.mp hr with hr | hr
    · exact h.ech.2 _ (List.mem_map.mpr ⟨r, hr, rfl⟩)
    · rw [List.mem_singleton.mp hr]
      exact h0
  have hdist : (rs ++ [(n ^^^ z, 2 ^ ns.length ^^^ v)]).Pairwise fun a b => a.1.log2 ≠ b.1.log2 := by
    rw [List.pairwise_append]
    refine ⟨?_, List.pairwise_singleton _ _, fun a ha b hb => ?_⟩
    · have := h.ech.1
      rw [List.pairwise_map] at this
      exact this.imp fun h => by omega
    · rw [List.mem_singleton.mp hb]
      exact hne a ha
  have hdist' := hperm.symm.pairwise hdist fun h => h.symm
  refine ⟨⟨?_, fun r hr => ?_⟩, fun r hr => ?_, fun m hm => ?_⟩
  · rw [List.pairwise_map]
    refine ((hsort.and hdist').imp_of_mem fun {a b} ha hb hab => ?_)
    have h1 := hpos a (hperm.subset ha)
    have h2 := hpos b (hperm.subset hb)
    have h3 : ¬ (a.1 < b.1) := by
      have := hab.1
      unfold prGeN at this
      simp only [Bool.not_eq_true', decide_eq_false_iff_not] at this
      omega
    have h4 : b.1.log2 ≤ a.1.log2 := by
      by_cases e : b.1 = a.1
      · rw [e]
        exact Nat.le_refl _
      · exact log2_of_lt (by omega) (by omega)
    have h5 := hab.2
    omega
  · obtain ⟨q, hq, rfl⟩ := List.mem_map.mp hr
    exact hpos q (hperm.subset hq)
  · rcases List.mem_append.mp (hperm.subset hr) with hr | hr
    · obtain ⟨h1, h2⟩ := h.sel r hr
      refine ⟨by rw [xsel_app1 _ _ _ h2]; exact h1, ?_⟩
      rw [List.length_append]
      exact Nat.lt_of_lt_of_le h2 (Nat.pow_le_pow_right (by decide) (Nat.le_add_right _ _))
    · rw [List.mem_singleton.mp hr]
      refine ⟨?_, ?_⟩
      · show xsel (ns ++ [n]) (2 ^ ns.length ^^^ v) = n ^^^ z
        rw [xsel_xor, xsel_pow, xsel_app1 _ _ _ lv, sv]
        congr 1
        rw [List.getD_eq_getElem?_getD, List.getElem?_append_right (Nat.le_refl _), Nat.sub_self]
        rfl
      · rw [List.length_append]
        exact Nat.xor_lt_two_pow (Nat.pow_lt_pow_right (by decide) (Nat.lt_succ_self _)) (Nat.lt_of_lt_of_le lv (Nat.pow_le_pow_right (by decide) (Nat.le_add_right _ _)))
  · have sub : ∀ a, Span (rs.map (·.1)) a → Span (((rs ++ [(n ^^^ z, 2 ^ ns.length ^^^ v)]).mergeSort prGeN).map (·.1)) a := fun a ha => ha.mono fun s hs => by
      obtain ⟨r, hr, rfl⟩ := List.mem_map.mp hs
      exact List.mem_map.mpr ⟨r, hperm.symm.subset (List.mem_append_left _ hr), rfl⟩
    rcases List.mem_append.mp hm with hm | hm
    · exact sub m (h.all m hm)
    · rw [List.mem_singleton.mp hm]
      have h1 : Span (((rs ++ [(n ^^^ z, 2 ^ ns.length ^^^ v)]).mergeSort prGeN).map (·.1)) (n ^^^ z) := .mem (List.mem_map.mpr ⟨(n ^^^ z, 2 ^ ns.length ^^^ v), hperm.symm.subset (List.mem_append_right _ List.mem_cons_self), rfl⟩)
      have h2 := h1.xor (sub z (h.sup sz))
      rw [Nat.xor_assoc, Nat.xor_self, Nat.xor_zero] at h2
      exact h2
theorem and_xor_cancel (a b : Nat) : (a ^^^ b) ^^^ b = a := by rw [Nat.xor_assoc, Nat.xor_self, Nat.xor_zero]
theorem par_pow (a i : Nat) : par (a &&& 2 ^ i) = a.testBit i := by
  induction i generalizing a with
  | zero =>
    rw [par_rec, Nat.and_div_two, show 2 ^ 0 / 2 = 0 from rfl, Nat.and_zero, par_zero, Bool.xor_false]
    rw [Nat.testBit_zero]
    have := @Nat.and_mod_two_eq_one a (2 ^ 0)
    exact decide_eq_decide.mpr (by omega)
  | succ i ih =>
    have h : 2 ^ (i + 1) = 2 * 2 ^ i := Nat.pow_succ'
    rw [par_rec, Nat.and_div_two, h, Nat.mul_div_cancel_left _ (by decide), ih, Nat.testBit_succ]
    have := @Nat.and_mod_two_eq_one a (2 * 2 ^ i)
    rw [decide_eq_false (by omega), Bool.false_xor]
/-- bits that each row meets evenly, and that meet a cleared one as x0 does -/
theorem even_rows : ∀ (rs : List Nat) (t x0 : Nat), Ech rs → Clear rs t → ∃ x, (∀ r ∈ rs, par (r &&& x) = false) ∧ par (t &&& x) = par (t &&& x0)
  | [], t, x0, _, _ => ⟨x0, (fun _ h => nomatch h), rfl⟩
  | r :: rs, t, x0, he, cl => by
    obtain ⟨x, h1, h2⟩ := even_rows rs t x0 he.tail fun s hs => cl s (List.mem_cons_of_mem _ hs)
    have hp := List.pairwise_cons.mp he.1
    have hb := Nat.testBit_log2 (n := r) (by have := he.2 r List.mem_cons_self; omega)
    cases e : par (r &&& x) with
    | false =>
      refine ⟨x, fun s hs => ?_, h2⟩
      rcases List.mem_cons.mp hs with rfl | hs
      · exact e
      · exact h1 s hs
    | true =>
      refine ⟨x ^^^ 2 ^ r.log2, fun s hs => ?_, ?_⟩
      · rw [Nat.and_xor_distrib_left, par_xor, par_pow]
        rcases List.mem_cons.mp hs with rfl | hs
        · rw [e, hb]
          rfl
        · rw [h1 s hs, log2_bit (hp.1 s hs)]
          rfl
      · rw [Nat.and_xor_distrib_left, par_xor, par_pow, cl r List.mem_cons_self, h2, Bool.xor_false]
/-- what is no sum: bits that each meets evenly, and it oddly -/
theorem RowsOk.bar {ns : List Nat} {rs : List (Nat × Nat)} (h : RowsOk ns rs) {t z : Nat} (sz : Span ns z) (cl : Clear (rs.map (·.1)) (t ^^^ z)) (h0 : t ^^^ z ≠ 0) : ∃ x, (∀ n ∈ ns, par (n &&& x) = false) ∧ par (t &&& x) = true := by
  obtain ⟨x, h1, h2⟩ := even_rows _ (t ^^^ z) (2 ^ (t ^^^ z).log2) h.ech cl
  rw [par_pow, Nat.testBit_log2 h0] at h2
  have hn : ∀ n ∈ ns, par (n &&& x) = false := fun n hn => sp_even h1 (h.all n hn)
  refine ⟨x, hn, ?_⟩
  have e : par (z &&& x) = false := sp_even hn sz
  rw [Nat.and_xor_distrib_right, par_xor, e, Bool.xor_false] at h2
  exact h2
theorem no_sp {ns : List Nat} {t x : Nat} (h1 : ∀ n ∈ ns, par (n &&& x) = false) (h2 : par (t &&& x) = true) : ¬ Span ns t := fun h => by
  rw [sp_even h1 h] at h2
  cases h2
/-! crossed -/
/-- which of the numbers have a lamp -/
def col (ns : List Nat) (l : Nat) : Nat := mask ((List.range ns.length).filter fun k => (ns.getD k 0).testBit l)
theorem col_bit (ns : List Nat) (l j : Nat) : (col ns l).testBit j = (decide (j < ns.length) && (ns.getD j 0).testBit l) := by
  unfold col
  rw [mask_bit (rising_nodup (List.Pairwise.filter _ List.pairwise_lt_range)), Bool.eq_iff_iff, decide_eq_true_eq, List.mem_filter, List.mem_range, Bool.and_eq_true, decide_eq_true_eq]
theorem par_col : ∀ (ns : List Nat) (c l x : Nat), (∀ j, c.testBit j = (decide (j < ns.length) && (ns.getD j 0).testBit l)) → par (c &&& x) = (xsel ns x).testBit l
  | [], c, l, x, h => by
    have : c = 0 := by
      apply Nat.eq_of_testBit_eq
      intro j
      rw [h, Nat.zero_testBit]
      rfl
    rw [this, Nat.zero_and, par_zero]
    show _ = (0 : Nat).testBit l
    rw [Nat.zero_testBit]
  | n :: ns, c, l, x, h => by
    have i := par_col ns (c / 2) l (x / 2) fun j => by
      rw [← Nat.testBit_succ, h]
      rw [List.getD_cons_succ, List.length_cons]
      congr 1
      exact decide_eq_decide.mpr (by omega)
    rw [par_rec, Nat.and_div_two, i]
    show _ = ((if x % 2 = 1 then n else 0) ^^^ xsel ns (x / 2)).testBit l
    rw [Nat.testBit_xor]
    congr 1
    have h0 := h 0
    rw [Nat.testBit_zero, List.getD_cons_zero, decide_eq_true (show 0 < (n :: ns).length from Nat.succ_pos _), Bool.true_and] at h0
    have := @Nat.and_mod_two_eq_one c x
    by_cases e : x % 2 = 1
    · rw [if_pos e, ← h0]
      exact decide_eq_decide.mpr (by omega)
    · rw [if_neg e, Nat.zero_testBit]
      exact decide_eq_false (by omega)
theorem par_col' (ns : List Nat) (l x : Nat) : par (col ns l &&& x) = (xsel ns x).testBit l := par_col ns _ l x (col_bit ns l)
theorem xsel_map_bit (ns : List Nat) (j : Nat) (hj : j < ns.length) : ∀ (ls : List Nat) (w : Nat), (xsel (ls.map (col ns)) w).testBit j = par (xsel (ls.map fun l => 2 ^ l) w &&& ns.getD j 0)
  | [], w => by
    show (0 : Nat).testBit j = par (0 &&& _)
    rw [Nat.zero_testBit, Nat.zero_and, par_zero]
  | l :: ls, w => by
    show ((if w % 2 = 1 then col ns l else 0) ^^^ xsel (ls.map (col ns)) (w / 2)).testBit j = par (((if w % 2 = 1 then 2 ^ l else 0) ^^^ xsel (ls.map fun l => 2 ^ l) (w / 2)) &&& ns.getD j 0)
    rw [Nat.testBit_xor, Nat.and_xor_distrib_right, par_xor, xsel_map_bit ns j hj ls]
    congr 1
    by_cases e : w % 2 = 1
    · rw [if_pos e, if_pos e, Nat.and_comm, par_pow, col_bit, decide_eq_true hj, Bool.true_and]
    · rw [if_neg e, if_neg e, Nat.zero_testBit, Nat.zero_and, par_zero]
end Sw

/-! Lamps that bar and presses that bring; all presses in order. -/
namespace Sw
theorem xsel_snoc : ∀ (ts : List Nat) (t w : Nat), xsel (ts ++ [t]) w = xsel ts (w % 2 ^ ts.length) ^^^ (if w.testBit ts.length then t else 0)
  | [], t, w => by
    show (if w % 2 = 1 then t else 0) ^^^ 0 = 0 ^^^ (if w.testBit 0 then t else 0)
    rw [Nat.xor_zero, Nat.zero_xor, Nat.testBit_zero]
    by_cases h : w % 2 = 1
    · rw [if_pos h, if_pos (decide_eq_true h)]
    · rw [if_neg h, if_neg (by rw [decide_eq_false h]; decide)]
  | s :: ts, t, w => by
    show (if w % 2 = 1 then s else 0) ^^^ xsel (ts ++ [t]) (w / 2) = ((if w % 2 ^ (s :: ts).length % 2 = 1 then s else 0) ^^^ xsel ts (w % 2 ^ (s :: ts).length / 2)) ^^^ (if w.testBit (s :: ts).length then t else 0)
    have e : 2 ^ (s :: ts).length = 2 * 2 ^ ts.length := Nat.pow_succ'
    have e1 : w % (2 * 2 ^ ts.length) % 2 = w % 2 := Nat.mod_mul_right_mod _ _ _
    have e2 : w % (2 * 2 ^ ts.length) / 2 = w / 2 % 2 ^ ts.length := Nat.mod_mul_right_div_self _ _ _
    rw [e, e1, e2, xsel_snoc ts t (w / 2), List.length_cons, Nat.testBit_succ, Nat.xor_assoc]
theorem mask_turned (ls : List Nat) : ∀ p : List Nat, (∀ i ∈ p, i < ls.length) → mask (p.map fun i => ls.getD i 0) = turned (ls.map fun l => 2 ^ l) p
  | [], _ => rfl
  | i :: p, h => by
    have hi := h i List.mem_cons_self
    rw [List.map_cons, mask_cons, turned_cons, mask_turned ls p fun j hj => h j (List.mem_cons_of_mem _ hj)]
    congr 1
    rw [List.getD_eq_getElem?_getD, List.getD_eq_getElem?_getD, List.getElem?_map, List.getElem?_eq_getElem hi]
    rfl
theorem sub_rising {ls p : List Nat} (hl : ls.Pairwise (· < ·)) (hp : IsPress ls.length p) : (p.map fun i => ls.getD i 0).Pairwise (· < ·) := by
  rw [List.pairwise_map]
  refine hp.1.imp_of_mem fun {i j} hi hj hij => ?_
  have h1 := hp.2 i hi
  have h2 := hp.2 j hj
  have := List.pairwise_iff_getElem.mp hl i j h1 h2 hij
  rw [List.getD_eq_getElem?_getD, List.getD_eq_getElem?_getD, List.getElem?_eq_getElem h1, List.getElem?_eq_getElem h2]
  exact this
theorem getD_mem {ls : List Nat} {i : Nat} (h : i < ls.length) : ls.getD i 0 ∈ ls := by
  rw [List.getD_eq_getElem?_getD, List.getElem?_eq_getElem h]
  exact List.getElem_mem h
theorem getD_app1 {ts : List Nat} {t j : Nat} (h : j < ts.length) : (ts ++ [t]).getD j 0 = ts.getD j 0 := by
  rw [List.getD_eq_getElem?_getD, List.getD_eq_getElem?_getD, List.getElem?_append_left h]
theorem getD_app2 {ts : List Nat} {t : Nat} : (ts ++ [t]).getD ts.length 0 = t := by
  rw [List.getD_eq_getElem?_getD, List.getElem?_append_right (Nat.le_refl _), Nat.sub_self]
  rfl
/-- the lamps among asked ones that a sum of columns tells -/
theorem bars_of {ts : List Nat} {d k w : Nat} (hw : w < 2 ^ (bits k).length) (h : xsel ((bits k).map (col (ts ++ [d]))) w = 2 ^ ts.length) :
    mask ((bits w).map fun i => (bits k).getD i 0) &&& k = mask ((bits w).map fun i => (bits k).getD i 0) ∧ par (mask ((bits w).map fun i => (bits k).getD i 0) &&& d) = true ∧ ∀ t ∈ ts, par (mask ((bits w).map fun i => (bits k).getD i 0) &&& t) = false := by
  have hP := bits_press hw
  have hr := sub_rising (bits_rising k) hP
  have hlen : (ts ++ [d]).length = ts.length + 1 := by rw [List.length_append]; rfl
  have key : ∀ j, j < ts.length + 1 → par (mask ((bits w).map fun i => (bits k).getD i 0) &&& (ts ++ [d]).getD j 0) = (2 ^ ts.length).testBit j := fun j hj => by
    rw [mask_turned _ _ hP.2, turned_bits, ← xsel_map_bit (ts ++ [d]) j (by omega), h]
  refine ⟨?_, ?_, fun t ht => ?_⟩
  · apply Nat.eq_of_testBit_eq
    intro i
    rw [Nat.testBit_and]
    cases e : (mask ((bits w).map fun i => (bits k).getD i 0)).testBit i with
    | false => rfl
    | true =>
      rw [mask_bit (rising_nodup hr), decide_eq_true_eq] at e
      obtain ⟨x, hx, rfl⟩ := List.mem_map.mp e
      have := getD_mem (hP.2 x hx)
      rw [mem_bits] at this
      rw [this]
      rfl
  · have := key ts.length (by omega)
    rw [getD_app2, Nat.testBit_two_pow_self] at this
    exact this
  · obtain ⟨j, hj, e⟩ := List.getElem_of_mem ht
    have := key j (by omega)
    rw [getD_app1 hj, Nat.testBit_two_pow_of_ne (by omega), List.getD_eq_getElem?_getD, List.getElem?_eq_getElem hj, e] at this
    exact this
/-- the press that no such lamps leave -/
theorem press_of {ts : List Nat} {d k x : Nat} (h1 : ∀ c ∈ (bits k).map (col (ts ++ [d])), par (c &&& x) = false) (h2 : par (2 ^ ts.length &&& x) = true) :
    ∃ p, IsPress ts.length p ∧ (d ^^^ turned ts p) &&& k = 0 := by
  rw [Nat.and_comm, par_pow] at h2
  refine ⟨bits (x % 2 ^ ts.length), bits_press (Nat.mod_lt _ (Nat.two_pow_pos _)), ?_⟩
  rw [turned_bits]
  apply Nat.eq_of_testBit_eq
  intro i
  rw [Nat.testBit_and, Nat.zero_testBit]
  cases e : k.testBit i with
  | false => exact Bool.and_false _
  | true =>
    have h3 := h1 (col (ts ++ [d]) i) (List.mem_map.mpr ⟨i, mem_bits.mpr e, rfl⟩)
    rw [par_col', xsel_snoc, h2, if_pos rfl, Nat.xor_comm] at h3
    rw [h3]
    rfl
/-- where lamps bar no press brings -/
theorem no_press {ts : List Nat} {n d k : Nat} (h1 : n &&& k = n) (h2 : par (n &&& d) = true) (h3 : ∀ t ∈ ts, par (n &&& t) = false) (p : List Nat) : (d ^^^ turned ts p) &&& k ≠ 0 := fun h => by
  have e : par (turned ts p &&& n) = false := by
    rw [turned_mask]
    exact sp_even (fun s hs => by rw [Nat.and_comm]; exact h3 s hs) (sp_xsel ts _)
  have e2 : n &&& (d ^^^ turned ts p) = 0 := by
    rw [← h1, Nat.and_assoc, Nat.and_comm k, h, Nat.and_zero]
  have e3 : par (n &&& (d ^^^ turned ts p)) = true := by
    rw [Nat.and_xor_distrib_left, par_xor, h2, Nat.and_comm n, e]
    rfl
  rw [e2, par_zero] at e3
  cases e3
theorem press_len {m : Nat} {p : List Nat} (h : IsPress m p) : p.length ≤ m := by
  rw [← bits_mask h.1, ← bits_eq (mask_lt h.2)]
  have := List.length_filter_le (mask p).testBit (List.range m)
  rw [List.length_range] at this
  exact this
/-! presses in the order of lists -/
theorem nint_inj {p q : List Nat} (h : nint p = nint q) : p = q := by
  have := congrArg (List.map Int.toNat) h
  rw [nint_toNat, nint_toNat] at this
  exact this
def leP (p q : List Nat) : Bool := decide (nint p ≤ nint q)
theorem leP_trans (a b c : List Nat) : leP a b = true → leP b c = true → leP a c = true := by
  unfold leP
  simp only [decide_eq_true_eq]
  exact fun h1 h2 => List.le_trans h1 h2
theorem leP_total (a b : List Nat) : (leP a b || leP b a) = true := by
  unfold leP
  simp only [Bool.or_eq_true, decide_eq_true_eq]
  exact List.le_total _ _
theorem leP_anti {a b : List Nat} (h1 : leP a b = true) (h2 : leP b a = true) : a = b := nint_inj (List.le_antisymm (of_decide_eq_true h1) (of_decide_eq_true h2))
theorem sort_uniq {xs ys : List (List Nat)} (h : xs.Perm ys) : xs.mergeSort leP = ys.mergeSort leP :=
  List.Perm.eq_of_pairwise (le := fun a b => leP a b = true) (fun a b _ _ h1 h2 => leP_anti h1 h2) (List.pairwise_mergeSort leP_trans leP_total _) (List.pairwise_mergeSort leP_trans leP_total _) (((List.mergeSort_perm _ _).trans h).trans (List.mergeSort_perm _ _).symm)
theorem sort_filter (f : List Nat → Bool) (xs : List (List Nat)) : (xs.mergeSort leP).filter f = (xs.filter f).mergeSort leP :=
  List.Perm.eq_of_pairwise (le := fun a b => leP a b = true) (fun a b _ _ h1 h2 => leP_anti h1 h2) ((List.pairwise_mergeSort leP_trans leP_total _).filter _) (List.pairwise_mergeSort leP_trans leP_total _) (((List.mergeSort_perm _ _).filter f).trans (List.mergeSort_perm _ _).symm)
/-- all presses of m switches, in the order of numbers; sorted -/
def allP (m : Nat) : List (List Nat) := (List.range (2 ^ m)).map bits
def presses (m : Nat) : List (List Nat) := (allP m).mergeSort leP
theorem mem_allP {m : Nat} {p : List Nat} : p ∈ allP m ↔ IsPress m p := by
  unfold allP
  rw [List.mem_map]
  constructor
  · rintro ⟨w, hw, rfl⟩
    exact bits_press (List.mem_range.mp hw)
  · intro h
    obtain ⟨h1, h2⟩ := mask_press h
    exact ⟨mask p, List.mem_range.mpr h1, h2⟩
theorem mem_presses {m : Nat} {p : List Nat} : p ∈ presses m ↔ IsPress m p := by
  unfold presses
  rw [(List.mergeSort_perm _ _).mem_iff]
  exact mem_allP
theorem allP_len (m : Nat) : (allP m).length = 2 ^ m := by
  unfold allP
  rw [List.length_map, List.length_range]
theorem presses_len (m : Nat) : (presses m).length = 2 ^ m := by
  unfold presses
  rw [List.length_mergeSort, allP_len]
theorem bits_top {m w : Nat} (h : w < 2 ^ m) : bits (2 ^ m + w) = bits w ++ [m] := by
  have hP := bits_press h
  refine rising_ext (bits_rising _) ?_ fun i => ?_
  · rw [List.pairwise_append]
    refine ⟨bits_rising w, List.pairwise_singleton _ _, fun a ha b hb => ?_⟩
    rw [List.mem_singleton.mp hb]
    exact hP.2 a ha
  · rw [mem_bits, List.mem_append, mem_bits, List.mem_singleton]
    by_cases e : i = m
    · subst e
      rw [Nat.testBit_two_pow_add_eq, Nat.testBit_lt_two_pow h]
      exact ⟨fun _ => .inr rfl, fun _ => rfl⟩
    · have e1 : 2 ^ m + w = 2 ^ m ^^^ w := by
        refine and_zero_add ?_
        apply Nat.eq_of_testBit_eq
        intro j
        rw [Nat.testBit_and, Nat.testBit_two_pow, Nat.zero_testBit]
        by_cases e : m = j
        · subst e
          rw [Nat.testBit_lt_two_pow h]
          exact Bool.and_false _
        · rw [decide_eq_false e]
          rfl
      rw [e1, Nat.testBit_xor, Nat.testBit_two_pow_of_ne (fun z => e z.symm), Bool.false_xor]
      exact ⟨.inl, fun h => h.resolve_right e⟩
/-- built up switch by switch -/
theorem allP_succ (m : Nat) : allP (m + 1) = allP m ++ (allP m).map (· ++ [m]) := by
  unfold allP
  have e : 2 ^ (m + 1) = 2 ^ m + 2 ^ m := by
    rw [Nat.pow_succ]
    omega
  rw [e, List.range_add, List.map_append, List.map_map, List.map_map]
  congr 1
  refine List.map_congr_left fun w hw => ?_
  exact bits_top (List.mem_range.mp hw)
theorem allP_zero : allP 0 = [[]] := rfl
/-- presses that bring -/
def okP (ts : List Nat) (d k : Nat) (p : List Nat) : Bool := decide ((d ^^^ turned ts p) &&& k = 0)
def due (ts : List Nat) (d k : Nat) : List (List Nat) := (presses ts.length).filter (okP ts d k)
theorem mem_due {ts : List Nat} {d k : Nat} {p : List Nat} : p ∈ due ts d k ↔ IsPress ts.length p ∧ okP ts d k p = true := by
  unfold due
  rw [List.mem_filter, mem_presses]
theorem due_sort (ts : List Nat) (d k : Nat) : due ts d k = ((allP ts.length).filter (okP ts d k)).mergeSort leP := sort_filter _ _
end Sw

/-! Houses. -/
namespace Sw
open PySem PySem.Spec PyProof.Rows L2 Evl
def nats (ns : List Nat) : List V := ns.map fun n : Nat => V.int (n : Int)
theorem nats_len (ns : List Nat) : (nats ns).length = ns.length := by unfold nats; rw [List.length_map]
theorem nats_ints (ns : List Nat) : nats ns = (ns.map fun n : Nat => (n : Int)).map V.int := by
  unfold nats
  rw [List.map_map]
  rfl
theorem nats_app (a b : List Nat) : nats (a ++ b) = nats a ++ nats b := by unfold nats; rw [List.map_append]
theorem nats_at {ns : List Nat} {i : Nat} {v : V} (h : (nats ns)[i]? = some v) : ∃ n, ns[i]? = some n ∧ v = .int (n : Int) := by
  unfold nats at h
  rw [List.getElem?_map] at h
  cases e : ns[i]? with
  | none => rw [e] at h; cases h
  | some n =>
    rw [e] at h
    exact ⟨n, rfl, (Option.some.inj h).symm⟩
theorem at_nats {ns : List Nat} {i : Nat} (h : i < ns.length) : (nats ns)[i]? = some (.int ((ns.getD i 0 : Nat) : Int)) := by
  unfold nats
  rw [List.getElem?_map, List.getElem?_eq_getElem h, List.getD_eq_getElem?_getD, List.getElem?_eq_getElem h]
  rfl
theorem atI_nats {ns : List Nat} {i : Nat} (h : i < ns.length) : atI (nats ns) (i : Int) = some (.int ((ns.getD i 0 : Nat) : Int)) := atI_nat (at_nats h)
/-- what is no whole number of its own -/
def Oth (K : PySem.W.Frag) (H : Hp) (x : V) : Prop := (∃ b, x = .bl b) ∨ ∃ t, TyX K H x (.type t) ∧ kitB t "int" = some false
theorem Oth.ex {K : PySem.W.Frag} {H H' : Hp} {x : V} (o : Oth K H x) (e : Ex H H') : Oth K H' x := o.imp id fun ⟨t, h, k⟩ => ⟨t, Sw.TyX.ex h e, k⟩
def hF (L : Nat) (l : Addr) : List (Str × V) := putF "turns" (.ref l) (putF "lamps" (.int (L : Int)) [])
theorem lt_ : ¬ (("lamps" : Str) = "turns") := by decide +kernel
theorem hF_eq (L : Nat) (l : Addr) : hF L l = ([("lamps", V.int (L : Int)), ("turns", V.ref l)] : List (Str × V)) := by
  show (if ("lamps" : Str) = "turns" then [(("lamps" : Str), V.ref l)] else (("lamps" : Str), V.int (L : Int)) :: putF "turns" (V.ref l) []) = _
  rw [if_neg lt_]
  rfl
theorem hF_lamps (L : Nat) (l : Addr) : (hF L l).lookup ("lamps" : Str) = some (.int (L : Int)) := by
  unfold hF
  rw [lookup_putF, if_neg lt_, lookup_putF, if_pos rfl]
theorem hF_turns (L : Nat) (l : Addr) : (hF L l).lookup ("turns" : Str) = some (.ref l) := by
  unfold hF
  rw [lookup_putF, if_pos rfl]
theorem hF_no (L : Nat) (l : Addr) {m : Str} (h1 : ¬ m = "turns") (h2 : ¬ m = "lamps") : (hF L l).lookup m = none := by
  unfold hF
  rw [lookup_putF, if_neg h1, lookup_putF, if_neg h2]
  rfl
/-- a house: so many lamps, what each switch turns -/
structure HouseOk (L : Nat) (ts : List Nat) : Prop where
  l1 : 1 ≤ L
  l2 : L ≤ 10
  few : ts.length ≤ 8
  low : ∀ t ∈ ts, t < 2 ^ L
structure HouseAt (K : PySem.W.Frag) (a : Ad) (H : Hp) (h : Addr) (L : Nat) (ts : List Nat) (dx l : Addr) : Prop where
  ins : H h = some (.ins a.House dx (hF L l))
  lst : H l = some (.lst (nats ts))
  ok : HouseOk L ts
theorem HouseAt.seq {K : PySem.W.Frag} {a : Ad} {H : Hp} {h : Addr} {L : Nat} {ts : List Nat} {dx l : Addr} (x : HouseAt K a H h L ts dx l) : SqL K H l (nats ts) := sq_of x.lst
theorem HouseAt.ex {K : PySem.W.Frag} {a : Ad} {H H' : Hp} {h : Addr} {L : Nat} {ts : List Nat} {dx l : Addr} (x : HouseAt K a H h L ts dx l) (e : Ex H H') : HouseAt K a H' h L ts dx l := ⟨e _ _ x.ins, e _ _ x.lst, x.ok⟩
theorem pow_le10 {L : Nat} (h : L ≤ 10) : 2 ^ L ≤ 1024 := Nat.pow_le_pow_right (by decide) h
theorem cpow1 {L : Nat} (h : L ≤ 1000) : CPow 1 (L : Int) := ⟨by omega, by omega, by decide⟩
theorem shl1 (L : Nat) : (1 : Int) * 2 ^ ((L : Int).toNat) = ((2 ^ L : Nat) : Int) := by
  rw [Int.one_mul, Int.toNat_natCast, Int.natCast_pow]
  rfl
def spWithin (K : PySem.W.Frag) : Sp := fun vs H Q _ => ∃ (x : V) (lo hi : Int), vs = [x, .int lo, .int hi] ∧ ((∃ n, x = .int n ∧ RetV (.bl (decide (lo ≤ n ∧ n ≤ hi))) H Q) ∨ (Oth K H x ∧ RetV (.bl false) H Q))
/-- the house's making: it is one, what is handed in may be kept elsewhere -/
def spHouse (K : PySem.W.Frag) (a : Ad) : Sp := fun vs H Q _ => ∃ (p dx : Addr) (L : Nat) (s : Addr) (ts : List Nat), vs = [.ref p, .int (L : Int), .ref s] ∧ H p = some (.ins a.House dx []) ∧ Rd H s (.lst (nats ts)) ∧ HouseOk L ts ∧
  ∀ H' l, H l = none → But p H H' → HouseAt K a H' p L ts dx l → Q .non H'
def spSwitches (K : PySem.W.Frag) (a : Ad) : Sp := fun vs H Q _ => ∃ (h : Addr) (L : Nat) (ts : List Nat) (dx l : Addr), vs = [.ref h] ∧ HouseAt K a H h L ts dx l ∧ RetL (nats ts) H Q
def spState (K : PySem.W.Frag) (a : Ad) : Sp := fun vs H Q _ => ∃ (h : Addr) (n : Nat) (L : Nat) (ts : List Nat) (dx l : Addr), vs = [.ref h, .int (n : Int)] ∧ HouseAt K a H h L ts dx l ∧ n < 2 ^ L ∧ RetV (.int (n : Int)) H Q
section
variable {K : PySem.W.Frag} {σ : L2.St} {H H' : Hp} {te : TE}
theorem el_filterN {b : Addr} {ts : List Nat} {tl : TE} {j : Nat} {vs : List Nat} {tt : TT} (f : Nat → Bool) (g : Nat → V) (h : Ev tl σ H (.ref b)) (hx : SqL K H b (nats ts)) (hz : ts.length ≤ 40000) (hw : ∀ x, wipe ((wipe σ vs).set j (some x)) vs = wipe σ vs)
    (ht : ∀ n ∈ ts, ∀ H1, Ex H H1 → EvT tt ((wipe σ vs).set j (some (.int (n : Int)))) H1 (f n)) (he : ∀ n ∈ ts, f n = true → ∀ H1, Ex H H1 → Ev te ((wipe σ vs).set j (some (.int (n : Int)))) H1 (g n)) : EvL (tLc (iList K tl) (gName j) tt te vs) σ H ((ts.filter f).map g) := by
  have q := el_filter (te := te) (tt := tt) (fun x => match x with | .int n => f n.toNat | _ => true) (fun x => match x with | .int n => g n.toNat | _ => .non) h hx (by rw [nats_len]; exact hz) hw (fun x hx H1 e => ?_) (fun x hx hf H1 e => ?_)
  · unfold nats at q
    rw [List.filter_map, List.map_map] at q
    exact q
  · obtain ⟨i, hi⟩ := List.getElem?_of_mem hx
    obtain ⟨n, hn, rfl⟩ := nats_at hi
    exact ht n (List.mem_of_getElem? hn) H1 e
  · obtain ⟨i, hi⟩ := List.getElem?_of_mem hx
    obtain ⟨n, hn, rfl⟩ := nats_at hi
    exact he n (List.mem_of_getElem? hn) hf H1 e
theorem el_mapN {b : Addr} {ts : List Nat} {tl : TE} {j : Nat} {vs : List Nat} (g : Nat → V) (h : Ev tl σ H (.ref b)) (hx : SqL K H b (nats ts)) (hz : ts.length ≤ 40000) (hw : ∀ x, wipe ((wipe σ vs).set j (some x)) vs = wipe σ vs)
    (he : ∀ n ∈ ts, ∀ H1, Ex H H1 → Ev te ((wipe σ vs).set j (some (.int (n : Int)))) H1 (g n)) : EvL (tLc (iList K tl) (gName j) tYes te vs) σ H (ts.map g) := by
  have q := el_filterN (te := te) (fun _ => true) g h hx hz hw (fun n _ H1 _ => et_yes) (fun n hm _ H1 e => he n hm H1 e)
  rw [List.filter_eq_self.mpr (fun _ _ => rfl)] at q
  exact q
/-- all(..) over such a list -/
theorem ev_allN {b : Addr} {ts : List Nat} {tl : TE} {j : Nat} {vs : List Nat} (g : Nat → Bool) (h : Ev tl σ H (.ref b)) (hx : SqL K H b (nats ts)) (hz : ts.length ≤ 40000) (hw : ∀ x, wipe ((wipe σ vs).set j (some x)) vs = wipe σ vs)
    (he : ∀ n ∈ ts, ∀ H1, Ex H H1 → Ev te ((wipe σ vs).set j (some (.int (n : Int)))) H1 (.bl (g n))) : Ev (tCB (rAll K) (tCons (tLc (iList K tl) (gName j) tYes te vs) tNil)) σ H (.bl (ts.all g)) := by
  have q := ev_all (K := K) (bs := ts.map g) (by
    rw [List.map_map]
    exact el_mapN (te := te) (fun n => .bl (g n)) h hx hz hw he)
  rw [List.all_map] at q
  exact q
theorem ev_anyN {b : Addr} {ts : List Nat} {tl : TE} {j : Nat} {vs : List Nat} (g : Nat → Bool) (h : Ev tl σ H (.ref b)) (hx : SqL K H b (nats ts)) (hz : ts.length ≤ 40000) (hw : ∀ x, wipe ((wipe σ vs).set j (some x)) vs = wipe σ vs)
    (he : ∀ n ∈ ts, ∀ H1, Ex H H1 → Ev te ((wipe σ vs).set j (some (.int (n : Int)))) H1 (.bl (g n))) : Ev (tCB (rAny K) (tCons (tLc (iList K tl) (gName j) tYes te vs) tNil)) σ H (.bl (ts.any g)) := by
  have q := ev_any (K := K) (bs := ts.map g) (by
    rw [List.map_map]
    exact el_mapN (te := te) (fun n => .bl (g n)) h hx hz hw he)
  rw [List.any_map] at q
  exact q
end
section
variable {P : Program} {w : World} {K : PySem.W.Frag} {mg : Str → Option Value} {base : Heap} {a : Ad}
theorem ok_within (T : Txt K mg a) : Cal P w K mg base CX0 1 "within" ["number", "low", "high"] (spWithin K) := by
  obtain ⟨f, fd, F, hm⟩ := T.d_within
  refine ⟨f, fd, F.ok sc_within (fun vs H Q E h => by first | (obtain ⟨_, rfl, _⟩ := h; rfl) | (obtain ⟨_, _, rfl, _⟩ := h; rfl) | (obtain ⟨_, _, _, rfl, _⟩ := h; rfl) | (obtain ⟨_, _, _, _, rfl, _⟩ := h; rfl) | (obtain ⟨_, _, _, _, _, rfl, _⟩ := h; rfl) | (obtain ⟨_, _, _, _, _, _, rfl, _⟩ := h; rfl) | (obtain ⟨_, _, _, _, _, _, _, rfl, _⟩ := h; rfl) | (obtain ⟨_, _, _, _, _, _, _, _, rfl, _⟩ := h; rfl) | (obtain ⟨_, _, _, _, _, _, _, _, _, rfl, _⟩ := h; rfl) | (obtain ⟨_, _, _, _, _, _, _, _, _, _, rfl, _⟩ := h; rfl) | (obtain ⟨_, _, _, _, _, _, _, _, _, _, _, rfl, _⟩ := h; rfl) | (obtain ⟨_, _, _, _, _, _, _, _, _, _, _, _, rfl, _⟩ := h; rfl) | (obtain ⟨_, _, _, _, _, _, _, _, _, _, _, _, _, rfl, _⟩ := h; rfl) | (obtain ⟨_, _, _, _, _, _, _, _, _, _, _, _, _, _, rfl, _⟩ := h; rfl) | (obtain ⟨_, _, _, _, _, _, _, _, _, _, _, _, _, _, _, rfl, _⟩ := h; rfl) | (obtain ⟨_, _, _, _, _, _, _, _, _, _, _, _, _, _, _, _, rfl, _⟩ := h; rfl) | (obtain ⟨_, _, _, _, _, _, _, _, _, _, _, _, _, _, _, _, _, rfl, _⟩ := h; rfl) | (obtain ⟨_, _, _, _, _, _, _, _, _, _, _, _, _, _, _, _, _, _, rfl, _⟩ := h; rfl) | (obtain ⟨_, _, _, _, _, _, _, _, _, _, _, _, _, _, _, _, _, _, _, rfl, _⟩ := h; rfl) | (obtain ⟨_, _, _, _, _, _, _, _, _, _, _, _, _, _, _, _, _, _, _, _, rfl, _⟩ := h; rfl) | (obtain ⟨_, _, _, _, _, _, _, _, _, _, _, _, _, _, _, _, _, _, _, _, _, rfl, _⟩ := h; rfl) | (obtain ⟨_, _, _, _, _, _, _, _, _, _, _, _, _, _, _, _, _, _, _, _, _, _, rfl, _⟩ := h; rfl) | (obtain ⟨_, _, _, _, _, _, _, _, _, _, _, _, _, _, _, _, _, _, _, _, _, _, _, rfl, _⟩ := h; rfl)) (fun cdv A outer s H vs Q E hr h => ?_), hm, F.kp, F.binds (ps := ["number", "low", "high"]) fun _ _ _ _ _ _ us hl => match us, hl with | [_, _, _], _ => rfl⟩
  refine ⟨_, (pss_one (ps_ret (pe_and (pe_callB (call_isiK' K) (by rfl) T.n_isinstance (by decide +kernel) (pa_cons (pv 0) (pa_cons (pe_bltn (v := .ty "int") rfl T.n_int (by decide +kernel) rfl) pa_nil))) (pe_and (pe_not (pe_callB (call_isiK' K) (by rfl) T.n_isinstance (by decide +kernel) (pa_cons (pv 0) (pa_cons (pe_bltn (v := .ty "bool") rfl T.n_bool (by decide +kernel) rfl) pa_nil)))) (pe_one (pe_chain op_le op_le (pv 1) (pv 0) (pv 2))))))), ?_⟩
  obtain ⟨x, lo, hi, rfl, ⟨n, rfl, k⟩ | ⟨o, k⟩⟩ := h
  · refine St.at ?_
    refine st_ret (H := H) (v := .bl (decide (lo ≤ n ∧ n ≤ hi))) (ev_to (ev_andV (ev_cb (by walk_at "ea") (by walk_at "rc")) fun _ => ev_andV (ev_notV (ev_cb (by walk_at "ea") (by walk_at "rc"))) fun _ => (by walk_at "ev")) ?_) k
    by_cases h1 : lo ≤ n <;> by_cases h2 : n ≤ hi <;> simp [h1, h2]
  · rcases o with ⟨b, rfl⟩ | ⟨t, ty, kt⟩
    · refine St.at ?_
      refine st_ret (H := H) (v := .bl false) (ev_to (v0 := .bl (true && (!true && false))) ?_ rfl) k
      refine ev_andV (by walk_at "ev") fun _ => ev_andV (by walk_at "ev") fun z => nomatch z
    · refine St.at ?_
      refine st_ret (H := H) (v := .bl false) (ev_to (v0 := .bl (false && false)) ?_ rfl) k
      refine ev_andV (ev_cb (by walk_at "ea") (rc_isiB ty kt)) fun z => nomatch z
theorem ev_within {σ : L2.St} {H : Hp} {n lo hi : Int} {E : XK} {ta : TA} (h : EvA ta σ H [.int n, .int lo, .int hi]) : Ev (tCall (spWithin K) [] E ta) σ H (.bl (decide (lo ≤ n ∧ n ≤ hi))) :=
  ev_cal h fun H1 e Q q => ⟨_, _, _, rfl, .inl ⟨_, rfl, q⟩⟩
theorem ev_lamps (T : Txt K mg a) {σ : L2.St} {H : Hp} {h dx l : Addr} {L : Nat} {ts : List Nat} {te : TE} (x : HouseAt K a H h L ts dx l) (he : Ev te σ H (.ref h)) : Ev (tFld K te "lamps") σ H (.int (L : Int)) := ev_fld he x.ins T.cl_House T.a_House_lamps (hF_lamps L l)
theorem ev_turns (T : Txt K mg a) {σ : L2.St} {H : Hp} {h dx l : Addr} {L : Nat} {ts : List Nat} {te : TE} (x : HouseAt K a H h L ts dx l) (he : Ev te σ H (.ref h)) : Ev (tFld K te "turns") σ H (.ref l) := ev_fld he x.ins T.cl_House T.a_House_turns (hF_turns L l)
theorem ok_House_switches (T : Txt K mg a) : CalM P w K mg base CX0 1 a.House "switches" ["self"] (spSwitches K a) := by
  obtain ⟨f, fd, F, hM⟩ := T.d_House_switches
  refine ⟨f, fd, F.ok sc_House_switches (fun vs H Q E h => by first | (obtain ⟨_, rfl, _⟩ := h; rfl) | (obtain ⟨_, _, rfl, _⟩ := h; rfl) | (obtain ⟨_, _, _, rfl, _⟩ := h; rfl) | (obtain ⟨_, _, _, _, rfl, _⟩ := h; rfl) | (obtain ⟨_, _, _, _, _, rfl, _⟩ := h; rfl) | (obtain ⟨_, _, _, _, _, _, rfl, _⟩ := h; rfl) | (obtain ⟨_, _, _, _, _, _, _, rfl, _⟩ := h; rfl) | (obtain ⟨_, _, _, _, _, _, _, _, rfl, _⟩ := h; rfl) | (obtain ⟨_, _, _, _, _, _, _, _, _, rfl, _⟩ := h; rfl) | (obtain ⟨_, _, _, _, _, _, _, _, _, _, rfl, _⟩ := h; rfl) | (obtain ⟨_, _, _, _, _, _, _, _, _, _, _, rfl, _⟩ := h; rfl) | (obtain ⟨_, _, _, _, _, _, _, _, _, _, _, _, rfl, _⟩ := h; rfl) | (obtain ⟨_, _, _, _, _, _, _, _, _, _, _, _, _, rfl, _⟩ := h; rfl) | (obtain ⟨_, _, _, _, _, _, _, _, _, _, _, _, _, _, rfl, _⟩ := h; rfl) | (obtain ⟨_, _, _, _, _, _, _, _, _, _, _, _, _, _, _, rfl, _⟩ := h; rfl) | (obtain ⟨_, _, _, _, _, _, _, _, _, _, _, _, _, _, _, _, rfl, _⟩ := h; rfl) | (obtain ⟨_, _, _, _, _, _, _, _, _, _, _, _, _, _, _, _, _, rfl, _⟩ := h; rfl) | (obtain ⟨_, _, _, _, _, _, _, _, _, _, _, _, _, _, _, _, _, _, rfl, _⟩ := h; rfl) | (obtain ⟨_, _, _, _, _, _, _, _, _, _, _, _, _, _, _, _, _, _, _, rfl, _⟩ := h; rfl) | (obtain ⟨_, _, _, _, _, _, _, _, _, _, _, _, _, _, _, _, _, _, _, _, rfl, _⟩ := h; rfl) | (obtain ⟨_, _, _, _, _, _, _, _, _, _, _, _, _, _, _, _, _, _, _, _, _, rfl, _⟩ := h; rfl) | (obtain ⟨_, _, _, _, _, _, _, _, _, _, _, _, _, _, _, _, _, _, _, _, _, _, rfl, _⟩ := h; rfl) | (obtain ⟨_, _, _, _, _, _, _, _, _, _, _, _, _, _, _, _, _, _, _, _, _, _, _, rfl, _⟩ := h; rfl)) (fun cdv A outer s H vs Q E hr h => ?_), hM, F.binds (ps := ["self"]) fun _ _ _ _ _ _ us hl => match us, hl with | [_], _ => rfl⟩
  refine ⟨_, (pss_one (ps_ret (pe_callTy (call_listK K) (by rfl) T.n_list (by decide +kernel) (pa_cons (pe_fldK K (pv 0)) pa_nil)))), ?_⟩
  obtain ⟨h, L, ts, dx, l, rfl, hh, k⟩ := h
  refine St.at ?_
  exact st_retL (H := H) (el_cb (ea_cons (ev_turns T hh (ev_var rfl)) ea_nil) (rcl_list hh.seq)) k
theorem ok_House_init (T : Txt K mg a) : CalK P w K mg base CX0 2 a.House "House" ["self", "lamps", "switches"] (spHouse K a) := by
  obtain ⟨f, fd, F, hM, hm⟩ := T.d_House_init
  refine ⟨f, fd, F.ok sc_House_init (fun vs H Q E h => by first | (obtain ⟨_, rfl, _⟩ := h; rfl) | (obtain ⟨_, _, rfl, _⟩ := h; rfl) | (obtain ⟨_, _, _, rfl, _⟩ := h; rfl) | (obtain ⟨_, _, _, _, rfl, _⟩ := h; rfl) | (obtain ⟨_, _, _, _, _, rfl, _⟩ := h; rfl) | (obtain ⟨_, _, _, _, _, _, rfl, _⟩ := h; rfl) | (obtain ⟨_, _, _, _, _, _, _, rfl, _⟩ := h; rfl) | (obtain ⟨_, _, _, _, _, _, _, _, rfl, _⟩ := h; rfl) | (obtain ⟨_, _, _, _, _, _, _, _, _, rfl, _⟩ := h; rfl) | (obtain ⟨_, _, _, _, _, _, _, _, _, _, rfl, _⟩ := h; rfl) | (obtain ⟨_, _, _, _, _, _, _, _, _, _, _, rfl, _⟩ := h; rfl) | (obtain ⟨_, _, _, _, _, _, _, _, _, _, _, _, rfl, _⟩ := h; rfl) | (obtain ⟨_, _, _, _, _, _, _, _, _, _, _, _, _, rfl, _⟩ := h; rfl) | (obtain ⟨_, _, _, _, _, _, _, _, _, _, _, _, _, _, rfl, _⟩ := h; rfl) | (obtain ⟨_, _, _, _, _, _, _, _, _, _, _, _, _, _, _, rfl, _⟩ := h; rfl) | (obtain ⟨_, _, _, _, _, _, _, _, _, _, _, _, _, _, _, _, rfl, _⟩ := h; rfl) | (obtain ⟨_, _, _, _, _, _, _, _, _, _, _, _, _, _, _, _, _, rfl, _⟩ := h; rfl) | (obtain ⟨_, _, _, _, _, _, _, _, _, _, _, _, _, _, _, _, _, _, rfl, _⟩ := h; rfl) | (obtain ⟨_, _, _, _, _, _, _, _, _, _, _, _, _, _, _, _, _, _, _, rfl, _⟩ := h; rfl) | (obtain ⟨_, _, _, _, _, _, _, _, _, _, _, _, _, _, _, _, _, _, _, _, rfl, _⟩ := h; rfl) | (obtain ⟨_, _, _, _, _, _, _, _, _, _, _, _, _, _, _, _, _, _, _, _, _, rfl, _⟩ := h; rfl) | (obtain ⟨_, _, _, _, _, _, _, _, _, _, _, _, _, _, _, _, _, _, _, _, _, _, rfl, _⟩ := h; rfl) | (obtain ⟨_, _, _, _, _, _, _, _, _, _, _, _, _, _, _, _, _, _, _, _, _, _, _, rfl, _⟩ := h; rfl)) (fun cdv A outer s H vs Q E hr h => ?_), hM, hm, F.binds (ps := ["self", "lamps", "switches"]) fun _ _ _ _ _ _ us hl => match us, hl with | [_, _, _], _ => rfl⟩
  refine ⟨_, (pss_cons (ps_if (PW.pt (pw_or (pt_not (pt_val (pe_cal (ok_within (K := K) (a := a) T) (hr.mono (by decide)) pass0 (pa_cons (pv 1) (pa_cons pe_int (pa_cons (pe_gint T.g_LAMPS) pa_nil)))))) (pw_or (pt_not (pt_val (pe_callB (call_isiK' K) (by rfl) T.n_isinstance (by decide +kernel) (pa_cons (pv 2) (pa_cons (pe_bltn (v := .ty "list") rfl T.n_list (by decide +kernel) rfl) pa_nil))))) (pw_or1 (pt_cmpR op_gt (pe_callB (call_lenK K) (by rfl) T.n_len (by decide +kernel) (pa_cons (pv 2) pa_nil)) (pe_gint T.g_SWITCHES) (nomark _)))))) (pss_one ps_never) pss_nil)
    (pss_cons (ps_if (pt_not (pt_val (pe_callB (cr_allK K) (by rfl) T.n_all (by decide +kernel) (pa_cons (pe_lc (own := [("one", 3)]) (g := gName 3) rfl sc_House_init.nd (pi_listK K (pv 2)) (blkOk_by (N := ["self", "lamps", "switches", "one"]) (sc := defScope s_House_init) (by decide +kernel)) (fun _ _ _ _ _ => (pgn 3 sc_House_init.nd)) (fun _ _ _ _ _ => pts_nil) (fun _ _ _ _ _ => (pe_cal (ok_within (K := K) (a := a) T) (hr.mono (by decide)) pass0 (pa_cons (pv 3) (pa_cons pe_int (pa_cons (pe_op op_sub (pe_op op_shl pe_int (pv 1)) pe_int) pa_nil)))))) pa_nil)))) (pss_one ps_never) pss_nil)
    (pss_cons (ps_fldK K (pv 0) (pv 1))
    (pss_one (ps_fldK K (pv 0) (pe_callTy (call_listK K) (by rfl) T.n_list (by decide +kernel) (pa_cons (pv 2) pa_nil))))))), ?_⟩
  obtain ⟨p, dx, L, s, ts, rfl, hp, hs, ok, k⟩ := h
  obtain ⟨l1, l2, few, low⟩ := id ok
  refine St.at ?_
  have ty := rd_ty (K := K) hs
  have hs' : SqL K H s (nats ts) := .inl hs
  have hc : CPow 1 (L : Int) := cpow1 (by omega)
  refine st_when (H := H) (b := false) (et_to (et_or (et_not (et_B (ev_within (by walk_at "ea")))) fun _ => et_or (et_not (et_B (by walk_at "ev"))) fun _ => (by walk_at "et")) ?_) (fun z => nomatch z) fun _ => ?_
  · rw [nats_len]
    have h1 : ((1 : Int) ≤ (L : Int) ∧ (L : Int) ≤ 10) := by omega
    have h2 : ¬ ((8 : Int) < (ts.length : Int)) := by omega
    rw [decide_eq_true h1, decide_eq_false h2]
    rfl
  refine st_when (b := false) (et_to (et_not (et_B (ev_allN (fun t => decide ((0 : Int) ≤ (t : Int) ∧ (t : Int) ≤ ((2 ^ L : Nat) : Int) - 1)) (ev_var rfl) hs' (by omega) (fun x => rfl) fun n hn H1 e => ?_))) ?_) (fun z => nomatch z) fun _ => ?_
  · refine ev_to (ev_within (by walk_at "ea")) ?_
    rw [shl1]
  · have e : (ts.all fun t : Nat => decide ((0 : Int) ≤ (t : Int) ∧ (t : Int) ≤ ((2 ^ L : Nat) : Int) - 1)) = true := by
      rw [List.all_eq_true]
      intro t ht
      have := low t ht
      exact decide_eq_true (by omega)
    rw [e]
    rfl
  refine st_fld (ev_var rfl) (ev_var rfl) hp T.cl_House T.a_House_lamps (by decide) fun H1 e1 => ?_
  have nsp : s ≠ p := rd_ne hs hp (fun _ _ _ z => nomatch z)
  refine st_fldL1 (el_cb (by walk_at "ea") (rcl_list (.inl (rd_but hs (But.of e1).upd nsp)))) (ev_var rfl) upd_same T.cl_House T.a_House_turns (by show 1 < 1000; decide) fun l H2 e2 hn hl => ?_
  have nlp : l ≠ p := fun z => by rw [z, upd_same] at hn; cases hn
  have hnl : H l = none := fresh_back e1 (by rw [upd_ne nlp] at hn; exact hn)
  refine k _ l hnl (((But.of e1).upd.trans (But.of e2)).upd) ⟨upd_same, ?_, ok⟩
  rw [upd_ne nlp]
  exact hl
end
end Sw

/-! Presses of a house. -/
namespace Sw
open PySem PySem.Spec PyProof.Rows L2 Evl
theorem bxor (a b : Nat) : Builtin.bitXor (a : Int) (b : Int) = ((a ^^^ b : Nat) : Int) := by
  rw [bitXor_and, bitAnd_pp (by omega) (by omega), Int.toNat_natCast, Int.toNat_natCast]
  have := add_xor a b
  omega
theorem band (a b : Nat) : Builtin.bitAnd (a : Int) (b : Int) = ((a &&& b : Nat) : Int) := by
  rw [bitAnd_pp (by omega) (by omega), Int.toNat_natCast, Int.toNat_natCast]
def spTurned (K : PySem.W.Frag) (a : Ad) : Sp := fun vs H Q _ => ∃ (h p : Addr) (L : Nat) (ts ps : List Nat) (dx l : Addr), vs = [.ref h, .ref p] ∧ HouseAt K a H h L ts dx l ∧ SqL K H p (nats ps) ∧ (∀ i ∈ ps, i < ts.length) ∧ RetV (.int (turned ts ps : Int)) H Q
def spCheckPress (K : PySem.W.Frag) (a : Ad) : Sp := fun vs H Q _ => ∃ (h p : Addr) (L : Nat) (ts ps : List Nat) (dx l : Addr), vs = [.ref h, .ref p] ∧ HouseAt K a H h L ts dx l ∧ Rd H p (.lst (nats ps)) ∧ ps.length ≤ 1000 ∧ IsPress ts.length ps ∧ RetV .non H Q
def spPressed (K : PySem.W.Frag) (a : Ad) : Sp := fun vs H Q _ => ∃ (h p : Addr) (n L : Nat) (ts ps : List Nat) (dx l : Addr), vs = [.ref h, .int (n : Int), .ref p] ∧ HouseAt K a H h L ts dx l ∧ n < 2 ^ L ∧ Rd H p (.lst (nats ps)) ∧ ps.length ≤ 1000 ∧ IsPress ts.length ps ∧ RetV (.int ((n ^^^ turned ts ps : Nat) : Int)) H Q
section
variable {K : PySem.W.Frag} {σ : L2.St} {H H' : Hp} {te : TE}
theorem rv_ixN {p : Addr} {ns : List Nat} {i : Nat} (h : SqL K H p (nats ns)) (hi : i < ns.length) : RV (rIxL K) (.ref p) (.int (i : Int)) H (.int ((ns.getD i 0 : Nat) : Int)) := rv_ixL h (atI_nats hi)
theorem rv_ixNI {p : Addr} {ns : List Nat} {i : Nat} {z : Int} (h : SqL K H p (nats ns)) (e : z = (i : Int)) (hi : i < ns.length) : RV (rIxL K) (.ref p) (.int z) H (.int ((ns.getD i 0 : Nat) : Int)) := by
  rw [e]
  exact rv_ixN h hi
theorem rv_xorN {i j : Nat} : RV (rI0 fun i j => .int (Builtin.bitXor i j)) (.int (i : Int)) (.int (j : Int)) H (.int ((i ^^^ j : Nat) : Int)) := by
  rw [← bxor]
  exact rv_I0
theorem rv_andN {i j : Nat} : RV (rI0 fun i j => .int (Builtin.bitAnd i j)) (.int (i : Int)) (.int (j : Int)) H (.int ((i &&& j : Nat) : Int)) := by
  rw [← band]
  exact rv_I0
/-- over range(m, n) -/
theorem el_lcR2 {ta : TA} {j : Nat} {vs : List Nat} {m n : Nat} (f : Nat → Bool) (v : Nat → V) {tt : TT} (h : EvA ta σ H [.int (m : Int), .int (n : Int)]) (hn : n ≤ 40000) (hm : m ≤ 40000) (hw : ∀ x, wipe ((wipe σ vs).set j (some x)) vs = wipe σ vs)
    (ht : ∀ i, m + i < n → ∀ H1, Ex H H1 → EvT tt ((wipe σ vs).set j (some (.int ((m + i : Nat) : Int)))) H1 (f i)) (he : ∀ i, m + i < n → f i = true → ∀ H1, Ex H H1 → Ev te ((wipe σ vs).set j (some (.int ((m + i : Nat) : Int)))) H1 (v i)) :
    EvL (tLc (iRng2 ta) (gName j) tt te vs) σ H (((List.range (n - m)).filter f).map v) := fun H0 e Q q => h H0 e _ fun H1 e1 => ⟨(m : Int), (n : Int), rfl, ⟨by omega, by omega, by omega, by omega⟩, fun Dl hD => by
  have en : ((n : Int) - (m : Int)).toNat = n - m := by omega
  rw [en]
  refine lc_range (lo := (m : Int)) (n := n - m) (Cw H1 f v Dl) ⟨hD, Ex.new hD, upd_same⟩ (fun i H' hi p => ?_) fun H' p => q Dl H' (fresh_back e1 p.1) (e1.trans p.2.1) p.2.2
  have e0 : (m : Int) + (i : Int) = ((m + i : Nat) : Int) := by omega
  rw [e0]
  exact ⟨hw _, cw_turn p (by omega) (ht i (by omega) H1 (e.trans e1)) (fun hf => he i (by omega) hf H1 (e.trans e1))⟩⟩
end
section
variable {P : Program} {w : World} {K : PySem.W.Frag} {mg : Str → Option Value} {base : Heap} {a : Ad}
end
end Sw

/-! What the law tells: cells, draws, houses. -/
namespace Sw
open PySem PySem.Spec PyProof.Rows L2 Evl
/-- not too great a number -/
def Sm (N : Nat) (z : Int) : Prop := z.natAbs < 2 ^ N
theorem Sm.add {N : Nat} {x y : Int} (hx : Sm N x) (hy : Sm N y) : Sm (N + 1) (x + y) := by
  unfold Sm at *
  rw [Nat.pow_succ]
  generalize 2 ^ N = m at *
  omega
theorem Sm.mono {N M : Nat} {x : Int} (hx : Sm N x) (h : N ≤ M) : Sm M x := Nat.lt_of_lt_of_le hx (Nat.pow_le_pow_right (by decide) h)
theorem Sm.div {N : Nat} {x y : Int} (hx : Sm N x) (hy : 0 < y) : Sm N (x / y) := by
  have h : (x / y).natAbs ≤ x.natAbs := by
    have h1 := Int.ediv_mul_le x (show y ≠ 0 by omega)
    have h2 := Int.lt_ediv_add_one_mul_self x hy
    by_cases h0 : 0 ≤ x
    · have := Int.ediv_nonneg h0 (by omega : 0 ≤ y)
      have := Int.ediv_le_self y h0
      omega
    · have := Int.ediv_neg_of_neg_of_pos (by omega : x < 0) hy
      have h3 : x ≤ x / y := by
        have h4 : x / y * y ≤ x / y * 1 := Int.mul_le_mul_of_nonpos_left (by omega) (by omega)
        have h5 : (x / y + 1) * y ≤ (x / y + 1) * 1 := Int.mul_le_mul_of_nonpos_left (by omega) (by omega)
        omega
      omega
  exact Nat.lt_of_le_of_lt h hx
theorem Sm.lit {N : Nat} {x : Int} (h : x.natAbs < 2 ^ 20) (hN : 20 ≤ N) : Sm N x := Nat.lt_of_lt_of_le h (Nat.pow_le_pow_right (by decide) hN)
theorem Sm.mul {N : Nat} {x y : Int} (h : Sm N x) (hy : y.natAbs < 2 ^ 20) (hN : N ≤ 2000000) : CMulX x y := mulx_ok h hy (by omega)
theorem Sm.of_bits {z : Int} (h : Builtin.Int.intBits z ≤ 1048576) : Sm 1048576 z := by
  unfold Sm
  unfold Builtin.Int.intBits at h
  split at h
  · rename_i e
    have e0 : z = 0 := by simpa using e
    rw [e0]
    exact Nat.two_pow_pos _
  · rename_i e
    have e0 : ¬ z = 0 := by simpa using e
    have : z.natAbs < 2 ^ (z.natAbs.log2 + 1) := Nat.lt_log2_self
    exact Nat.lt_of_lt_of_le this (Nat.pow_le_pow_right (by decide) h)
theorem atI_mod {xs : List V} (z : Int) {n : Nat} (h : xs.length = n) (hn : 0 < n) : ∃ v ∈ xs, atI xs (z % (n : Int)) = some v := by
  have h1 := Int.emod_nonneg z (show (n : Int) ≠ 0 by omega)
  have h2 := Int.emod_lt_of_pos z (show (0 : Int) < (n : Int) by omega)
  obtain ⟨j, hj⟩ := Int.eq_ofNat_of_zero_le h1
  have hj' : j < xs.length := by omega
  refine ⟨xs[j], List.getElem_mem hj', ?_⟩
  rw [hj]
  exact atI_nat (List.getElem?_eq_getElem hj')
def spCell (K : PySem.W.Frag) : Sp := fun vs H Q _ => ∃ (s : Addr) (ns : List Int) (k : Nat), vs = [.ref s, .int (k : Int)] ∧ SqL K H s (ns.map V.int) ∧ (∀ z ∈ ns, Builtin.Int.intBits z ≤ 1048576) ∧ RetP (fun v _ _ => ∃ z, v = .int z ∧ Sm 1048576 z) H Q
def prs : List Int := [1000003, 1000033, 1000037, 1000039, 1000081, 1000099, 1000117, 1000121]
/-- what is drawn -/
def dr (z : Int) (k m : Nat) : Nat := ((z * 48271 + (k : Int) * 69621 + z / 1000003 % 1000003 * 40692) % prs.getD (k % 8) 1 % (m : Int)).toNat
theorem dr_lt (z : Int) (k : Nat) {m : Nat} (h : 0 < m) : dr z k m < m := by
  unfold dr
  generalize (z * 48271 + (k : Int) * 69621 + z / 1000003 % 1000003 * 40692) % prs.getD (k % 8) 1 = y
  have h1 := Int.emod_nonneg y (show (m : Int) ≠ 0 by omega)
  have h2 := Int.emod_lt_of_pos y (show (0 : Int) < (m : Int) by omega)
  omega
def spDraw : Sp := fun vs H Q _ => ∃ (z : Int) (N k m : Nat), vs = [.int z, .int (k : Int), .int (m : Int)] ∧ Sm N z ∧ N ≤ 2000000 ∧ k < 1000 ∧ 0 < m ∧ RetV (.int (dr z k m : Int)) H Q
/-- a house told: lamps and switches, the tuple at p, its list at l -/
structure ToldAt (K : PySem.W.Frag) (H : Hp) (p : Addr) (L : Nat) (ts : List Nat) (l : Addr) : Prop where
  tup : SqT K H p [.int (L : Int), .ref l]
  lst : H l = some (.lst (nats ts))
  ok : HouseOk L ts
theorem ToldAt.ex {K : PySem.W.Frag} {H H' : Hp} {p : Addr} {L : Nat} {ts : List Nat} {l : Addr} (x : ToldAt K H p L ts l) (e : Ex H H') : ToldAt K H' p L ts l := ⟨ex_t e x.tup, e _ _ x.lst, x.ok⟩
def spTold (K : PySem.W.Frag) : Sp := fun vs H Q _ => ∃ (s : Addr) (ns : List Int) (k : Nat), vs = [.ref s, .int (k : Int)] ∧ SqL K H s (ns.map V.int) ∧ (∀ z ∈ ns, Builtin.Int.intBits z ≤ 1048576) ∧
  RetP (fun v fr H2 => ∃ p L ts l, v = .ref p ∧ fr p ∧ fr l ∧ ToldAt K H2 p L ts l) H Q
def spLTurned (K : PySem.W.Frag) : Sp := fun vs H Q _ => ∃ (t p : Addr) (L : Nat) (ts ps : List Nat) (l : Addr), vs = [.ref t, .ref p] ∧ ToldAt K H t L ts l ∧ SqL K H p (nats ps) ∧ (∀ i ∈ ps, i < ts.length) ∧ RetV (.int (turned ts ps : Int)) H Q
def spNumber (K : PySem.W.Frag) : Sp := fun vs H Q _ => ∃ (x : V) (m : Int), vs = [x, .int m] ∧ ((∃ n, x = .int n ∧ RetV (.bl (decide (0 ≤ n ∧ n < m))) H Q) ∨ (Oth K H x ∧ RetV (.bl false) H Q))
section
variable {K : PySem.W.Frag} {σ : L2.St} {H H' : Hp} {te : TE}
theorem ev_div {ta tb : TE} {x y : Int} (ha : Ev ta σ H (.int x)) (hb : Ev tb σ H (.int y)) (h : 0 < y) (h2 : y < 1073741824) : Ev (tOp (rI CDiv fun i j => .int (i / j)) ta tb) σ H (.int (x / y)) := ev_op ha hb (rv_I ⟨h, h2⟩)
theorem ev_mod {ta tb : TE} {x y : Int} (ha : Ev ta σ H (.int x)) (hb : Ev tb σ H (.int y)) (h : 0 < y) : Ev (tOp (rI (fun _ j => 0 < j) fun i j => .int (i % j)) ta tb) σ H (.int (x % y)) := ev_op ha hb (rv_I (C := fun _ j => 0 < j) h)
theorem ev_mulx {ta tb : TE} {x y : Int} (ha : Ev ta σ H (.int x)) (hb : Ev tb σ H (.int y)) (h : CMulX x y) : Ev (tOp (rI CMulX fun i j => .int (i * j)) ta tb) σ H (.int (x * y)) := ev_op ha hb (rv_I h)
theorem ev_shl1 {ta tb : TE} {L : Nat} (ha : Ev ta σ H (.int 1)) (hb : Ev tb σ H (.int (L : Int))) (h : L ≤ 1000) : Ev (tOp (rI CPow fun i j => .int (i * 2 ^ j.toNat)) ta tb) σ H (.int ((2 ^ L : Nat) : Int)) := ev_to (ev_op ha hb (rv_I (cpow1 h))) (by rw [shl1])
/-- t[k] of a display that stands at once -/
theorem ev_ixU {ta tb : TE} {xs : List V} {v : V} {i : Int} (ha : EvU ta σ H xs) (hb : Ev tb σ H (.int i)) (hv : atI xs i = some v) : Ev (tOp (rIxT K) ta tb) σ H v := fun H1 e Q q =>
  ha H1 e _ fun p H2 _ e2 hp => hb H2 (e.trans e2) _ fun H3 e3 => ⟨p, xs, i, v, rfl, rfl, ex_t e3 (st_of hp), hv, q H3 (e2.trans e3)⟩
theorem ev_draw {ta : TA} {E : XK} {z : Int} {N k m : Nat} (h : EvA ta σ H [.int z, .int (k : Int), .int (m : Int)]) (hs : Sm N z) (hN : N ≤ 2000000) (hk : k < 1000) (hm : 0 < m) :
    Ev (tCall spDraw [] E ta) σ H (.int (dr z k m : Int)) := ev_cal h fun H2 e Q q => ⟨_, _, _, _, rfl, hs, hN, hk, hm, q⟩
theorem st_asgD {i : Nat} {tz : TS} {D : Ends} {ta : TA} {E : XK} {z : Int} {N k m : Nat} (h : EvA ta σ H [.int z, .int (k : Int), .int (m : Int)]) (hs : Sm N z) (hN : N ≤ 2000000) (hk : k < 1000) (hm : 0 < m)
    (c : ∀ r : Nat, r < m → St tz D (σ.set i (some (.int (r : Int)))) H) : St (tSeq (tAsg (tCall spDraw [] E ta) (gName i)) tz) D σ H := st_asg (ev_draw h hs hN hk hm) (c _ (dr_lt z k hm))
theorem evp_draw {ta : TA} {E : XK} {z : Int} {N k m : Nat} (h : EvA ta σ H [.int z, .int (k : Int), .int (m : Int)]) (hs : Sm N z) (hN : N ≤ 2000000) (hk : k < 1000) (hm : 0 < m) :
    EvP (tCall spDraw [] E ta) σ H (fun v _ _ => ∃ r : Nat, v = .int (r : Int) ∧ r < m) := (ev_p (ev_draw h hs hN hk hm)).imp fun v _ _ _ p => ⟨_, p, dr_lt z k hm⟩
/-- the value that some expression has, one of several -/
theorem evp_bind2 {r : R2} {ta tb : TE} {P P' : RP} {y : V} (ha : EvP ta σ H P) (hb : Ev tb σ H y) (hr : ∀ v fr H1, Ex H H1 → P v fr H1 → ∀ H2, Ex H1 H2 → ∀ Q : VK, RetP P' H2 Q → r v y H2 Q) : EvP (tOp r ta tb) σ H P' := fun H1 e Q q =>
  ha H1 e _ fun v fr H2 e2 f p => hb H2 (e.trans e2) _ fun H3 e3 => hr v fr H2 (e.trans e2) p H3 e3 Q (q.ex (e2.trans e3))
theorem evp_bind2r {r : R2} {ta tb : TE} {P P' : RP} {x : V} (ha : Ev ta σ H x) (hb : EvP tb σ H P) (hr : ∀ v fr H1, Ex H H1 → P v fr H1 → ∀ Q : VK, RetP P' H1 Q → r x v H1 Q) : EvP (tOp r ta tb) σ H P' := fun H1 e Q q =>
  ha H1 e _ fun H2 e2 => hb H2 (e.trans e2) _ fun v fr H3 e3 f p => hr v fr H3 ((e.trans e2).trans e3) p Q (q.ex (e2.trans e3))
/-- an if whose ways meet again: Mid tells the slots -/
theorem st_cut {t u : TS} {D : Ends} (Mid : L2.St → Prop) (h : St t { D with nx := fun σ' H' => Ex H H' ∧ Mid σ' } σ H) (k : ∀ σ', Mid σ' → St u D σ' H) : St (tCut t u) D σ H := fun H1 a => ⟨_, h H1 a, fun σ' H' m => k σ' m.2 H' m.1⟩
/-- a test, its outcome open: both ways at once -/
def EvTP (t : TT) (σ : L2.St) (H : Hp) : Prop := ∀ H1, Ex H H1 → ∀ Q : Bool → Hp → Prop, (∀ b H2, Ex H1 H2 → Q b H2) → t σ H1 Q
theorem st_any {t : TT} {tu tw tz : TS} {D : Ends} (h : EvTP t σ H) (h1 : St tu { D with nx := tz D } σ H) (h2 : St tw { D with nx := tz D } σ H) : St (tSeq (tIfS t tu tw) tz) D σ H := fun H1 a => h H1 a _ fun b H2 e => by
  cases b with
  | true => exact h1 H2 (a.trans e)
  | false => exact h2 H2 (a.trans e)
theorem etp_of {t : TT} {b : Bool} (h : EvT t σ H b) : EvTP t σ H := fun H1 a Q q => h H1 a Q fun H2 e => q b H2 e
theorem etp_and {t u : TT} (h1 : EvTP t σ H) (h2 : EvTP u σ H) : EvTP (tAnd t u) σ H := fun H1 e Q q => h1 H1 e _ fun b H2 e2 => by
  cases b with
  | true => exact h2 H2 (e.trans e2) Q fun b H3 e3 => q b H3 (e2.trans e3)
  | false => exact q false H2 e2
theorem etp_andV {t u : TT} {b : Bool} (h1 : EvT t σ H b) (h2 : b = true → EvTP u σ H) : EvTP (tAnd t u) σ H := fun H1 e Q q => h1 H1 e _ fun H2 e2 => by
  cases b with
  | true => exact h2 rfl H2 (e.trans e2) Q fun b H3 e3 => q b H3 (e2.trans e3)
  | false => exact q false H2 e2
theorem etp_test {te : TE} {P : RP} (h : EvP te σ H P) (hb : ∀ v fr H1, P v fr H1 → ∃ b, v = .bl b) : EvTP (tTest te) σ H := fun H1 e _ q => h H1 e _ fun v fr H2 e2 _ p => by
  obtain ⟨b, hv⟩ := hb v fr H2 p
  exact ⟨b, hv, q b H2 e2⟩
theorem ev_test_eq {ta tb : TE} {x y : Int} (ha : Ev ta σ H (.int x)) (hb : Ev tb σ H (.int y)) : EvT (tTest (tOp rEq ta tb)) σ H (decide (x = y)) := et_test (ev_op ha hb rv_eqI)
theorem st_asgP1 {i : Nat} {P : RP} {D : Ends} (h : EvP te σ H P) (k : ∀ v fr H1, Ex H H1 → (∀ a, fr a → H a = none) → P v fr H1 → D.nx (σ.set i (some v)) H1) : St (tAsg te (gName i)) D σ H := fun H1 a => h H1 a _ fun v fr H2 e f p => k v fr H2 (a.trans e) (fun b hb => fresh_back a (f b hb)) p
/-- if A and B: .., B's outcome open, no else -/
theorem st_anyIf {t u : TT} {tu : TS} {D : Ends} {b : Bool} (h1 : EvT t σ H b) (h2 : b = true → EvTP u σ H) (k1 : b = true → St tu D σ H) (k2 : ∀ H1, Ex H H1 → D.nx σ H1) : St (tIfS (tAnd t u) tu tNext) D σ H := fun H1 a => h1 H1 a _ fun H2 e2 => by
  cases b with
  | false => exact k2 H2 (a.trans e2)
  | true =>
    refine h2 rfl H2 (a.trans e2) _ fun c H3 e3 => ?_
    cases c with
    | true => exact k1 rfl H3 ((a.trans e2).trans e3)
    | false => exact k2 H3 ((a.trans e2).trans e3)
end
section
variable {P : Program} {w : World} {K : PySem.W.Frag} {mg : Str → Option Value} {base : Heap} {a : Ad}
theorem ok__law_cell_at (T : Txt K mg a) : Cal P w K mg base CX0 1 "_law_cell_at" ["_law_script", "_law_k"] (spCell K) := by
  obtain ⟨f, fd, F, hm⟩ := T.d__law_cell_at
  refine ⟨f, fd, F.ok sc__law_cell_at (fun vs H Q E h => by first | (obtain ⟨_, rfl, _⟩ := h; rfl) | (obtain ⟨_, _, rfl, _⟩ := h; rfl) | (obtain ⟨_, _, _, rfl, _⟩ := h; rfl) | (obtain ⟨_, _, _, _, rfl, _⟩ := h; rfl) | (obtain ⟨_, _, _, _, _, rfl, _⟩ := h; rfl) | (obtain ⟨_, _, _, _, _, _, rfl, _⟩ := h; rfl) | (obtain ⟨_, _, _, _, _, _, _, rfl, _⟩ := h; rfl) | (obtain ⟨_, _, _, _, _, _, _, _, rfl, _⟩ := h; rfl) | (obtain ⟨_, _, _, _, _, _, _, _, _, rfl, _⟩ := h; rfl) | (obtain ⟨_, _, _, _, _, _, _, _, _, _, rfl, _⟩ := h; rfl) | (obtain ⟨_, _, _, _, _, _, _, _, _, _, _, rfl, _⟩ := h; rfl) | (obtain ⟨_, _, _, _, _, _, _, _, _, _, _, _, rfl, _⟩ := h; rfl) | (obtain ⟨_, _, _, _, _, _, _, _, _, _, _, _, _, rfl, _⟩ := h; rfl) | (obtain ⟨_, _, _, _, _, _, _, _, _, _, _, _, _, _, rfl, _⟩ := h; rfl) | (obtain ⟨_, _, _, _, _, _, _, _, _, _, _, _, _, _, _, rfl, _⟩ := h; rfl) | (obtain ⟨_, _, _, _, _, _, _, _, _, _, _, _, _, _, _, _, rfl, _⟩ := h; rfl) | (obtain ⟨_, _, _, _, _, _, _, _, _, _, _, _, _, _, _, _, _, rfl, _⟩ := h; rfl) | (obtain ⟨_, _, _, _, _, _, _, _, _, _, _, _, _, _, _, _, _, _, rfl, _⟩ := h; rfl) | (obtain ⟨_, _, _, _, _, _, _, _, _, _, _, _, _, _, _, _, _, _, _, rfl, _⟩ := h; rfl) | (obtain ⟨_, _, _, _, _, _, _, _, _, _, _, _, _, _, _, _, _, _, _, _, rfl, _⟩ := h; rfl) | (obtain ⟨_, _, _, _, _, _, _, _, _, _, _, _, _, _, _, _, _, _, _, _, _, rfl, _⟩ := h; rfl) | (obtain ⟨_, _, _, _, _, _, _, _, _, _, _, _, _, _, _, _, _, _, _, _, _, _, rfl, _⟩ := h; rfl) | (obtain ⟨_, _, _, _, _, _, _, _, _, _, _, _, _, _, _, _, _, _, _, _, _, _, _, rfl, _⟩ := h; rfl)) (fun cdv A outer s H vs Q E hr h => ?_), hm, F.kp, F.binds (ps := ["_law_script", "_law_k"]) fun _ _ _ _ _ _ us hl => match us, hl with | [_, _], _ => rfl⟩
  refine ⟨_, (pss_cons (ps_if (pt_cmpR op_lt (pv 1) (pe_callB (call_lenK K) (by rfl) T.n_len (by decide +kernel) (pa_cons (pv 0) pa_nil)) (nomark _)) (pss_one (ps_ret (pe_ix (ix_listK K) (pv 0) (pv 1) (fun _ _ => rfl)))) pss_nil)
    (pss_one (ps_ret pe_int))), ?_⟩
  obtain ⟨s, ns, n, rfl, hs, hb, k⟩ := h
  refine St.at ?_
  refine st_when (H := H) (by walk_at "et") (fun h => ?_) fun _ => ?_
  · have hlt := of_decide_eq_true h
    rw [List.length_map] at hlt
    have hn : n < ns.length := by omega
    refine st_retP (P := IsV (V.int ns[n])) (ev_p (ev_op (ev_var rfl) (ev_var rfl) (rv_ixL hs (atI_nat (v := V.int ns[n]) (by rw [List.getElem?_map, List.getElem?_eq_getElem hn]; rfl))))) fun v fr H2 e f p => k v fr H2 e f ⟨_, p, Sm.of_bits (hb _ (List.getElem_mem hn))⟩
  · exact st_retP (P := IsV (V.int 0)) (ev_p ev_c) fun v fr H2 e f p => k v fr H2 e f ⟨0, p, Sm.lit (by decide) (by decide)⟩
theorem ok__law_draw (T : Txt K mg a) : Cal P w K mg base CX0 1 "_law_draw" ["_law_cell", "_law_k", "_law_many"] spDraw := by
  obtain ⟨f, fd, F, hm⟩ := T.d__law_draw
  refine ⟨f, fd, F.ok sc__law_draw (fun vs H Q E h => by first | (obtain ⟨_, rfl, _⟩ := h; rfl) | (obtain ⟨_, _, rfl, _⟩ := h; rfl) | (obtain ⟨_, _, _, rfl, _⟩ := h; rfl) | (obtain ⟨_, _, _, _, rfl, _⟩ := h; rfl) | (obtain ⟨_, _, _, _, _, rfl, _⟩ := h; rfl) | (obtain ⟨_, _, _, _, _, _, rfl, _⟩ := h; rfl) | (obtain ⟨_, _, _, _, _, _, _, rfl, _⟩ := h; rfl) | (obtain ⟨_, _, _, _, _, _, _, _, rfl, _⟩ := h; rfl) | (obtain ⟨_, _, _, _, _, _, _, _, _, rfl, _⟩ := h; rfl) | (obtain ⟨_, _, _, _, _, _, _, _, _, _, rfl, _⟩ := h; rfl) | (obtain ⟨_, _, _, _, _, _, _, _, _, _, _, rfl, _⟩ := h; rfl) | (obtain ⟨_, _, _, _, _, _, _, _, _, _, _, _, rfl, _⟩ := h; rfl) | (obtain ⟨_, _, _, _, _, _, _, _, _, _, _, _, _, rfl, _⟩ := h; rfl) | (obtain ⟨_, _, _, _, _, _, _, _, _, _, _, _, _, _, rfl, _⟩ := h; rfl) | (obtain ⟨_, _, _, _, _, _, _, _, _, _, _, _, _, _, _, rfl, _⟩ := h; rfl) | (obtain ⟨_, _, _, _, _, _, _, _, _, _, _, _, _, _, _, _, rfl, _⟩ := h; rfl) | (obtain ⟨_, _, _, _, _, _, _, _, _, _, _, _, _, _, _, _, _, rfl, _⟩ := h; rfl) | (obtain ⟨_, _, _, _, _, _, _, _, _, _, _, _, _, _, _, _, _, _, rfl, _⟩ := h; rfl) | (obtain ⟨_, _, _, _, _, _, _, _, _, _, _, _, _, _, _, _, _, _, _, rfl, _⟩ := h; rfl) | (obtain ⟨_, _, _, _, _, _, _, _, _, _, _, _, _, _, _, _, _, _, _, _, rfl, _⟩ := h; rfl) | (obtain ⟨_, _, _, _, _, _, _, _, _, _, _, _, _, _, _, _, _, _, _, _, _, rfl, _⟩ := h; rfl) | (obtain ⟨_, _, _, _, _, _, _, _, _, _, _, _, _, _, _, _, _, _, _, _, _, _, rfl, _⟩ := h; rfl) | (obtain ⟨_, _, _, _, _, _, _, _, _, _, _, _, _, _, _, _, _, _, _, _, _, _, _, rfl, _⟩ := h; rfl)) (fun cdv A outer s H vs Q E hr h => ?_), hm, F.kp, F.binds (ps := ["_law_cell", "_law_k", "_law_many"]) fun _ _ _ _ _ _ us hl => match us, hl with | [_, _, _], _ => rfl⟩
  refine ⟨_, (pss_cons (pset 3 sc__law_draw.nd (pe_tup (pa_cons pe_int (pa_cons pe_int (pa_cons pe_int (pa_cons pe_int (pa_cons pe_int (pa_cons pe_int (pa_cons pe_int (pa_cons pe_int pa_nil))))))))))
    (pss_cons (pset 4 sc__law_draw.nd (pe_op op_add (pe_op op_add (pe_op op_mulX (pv 0) pe_int) (pe_op op_mulX (pv 1) pe_int)) (pe_op op_mulX (pe_op op_mod (pe_op op_fdiv (pv 0) pe_int) pe_int) pe_int)))
    (pss_one (ps_ret (pe_op op_mod (pe_op op_mod (pv 4) (pe_ix (ix_tupK K) (pv 3) (pe_op op_mod (pv 1) pe_int) (fun _ _ => rfl))) (pv 2)))))), ?_⟩
  obtain ⟨z, N, n, m, rfl, hz, hN, hn, hm, k⟩ := h
  refine St.at ?_
  refine st_asgU (H := H) (eu_tup (by walk_at "ea") (by decide)) fun p H1 _ e1 hp => ?_
  have hk8 : n % 8 < 8 := Nat.mod_lt _ (by decide)
  have ha : atI [V.int 1000003, .int 1000033, .int 1000037, .int 1000039, .int 1000081, .int 1000099, .int 1000117, .int 1000121] ((n : Int) % 8) = some (.int (prs.getD (n % 8) 1)) := by
    have e : (n : Int) % 8 = ((n % 8 : Nat) : Int) := by omega
    rw [e]
    refine atI_nat ?_
    generalize n % 8 = j at hk8
    match j, hk8 with
    | 0, _ => rfl
    | 1, _ => rfl
    | 2, _ => rfl
    | 3, _ => rfl
    | 4, _ => rfl
    | 5, _ => rfl
    | 6, _ => rfl
    | 7, _ => rfl
    | j + 8, h => omega
  have hq : 0 < prs.getD (n % 8) 1 := by
    generalize n % 8 = j at hk8
    match j, hk8 with
    | 0, _ => decide
    | 1, _ => decide
    | 2, _ => decide
    | 3, _ => decide
    | 4, _ => decide
    | 5, _ => decide
    | 6, _ => decide
    | 7, _ => decide
    | j + 8, h => omega
  have hc1 : CMulX z 48271 := hz.mul (by decide) hN
  have hc2 : CMulX (n : Int) 69621 := (Sm.lit (N := 20) (by omega) (by decide)).mul (by decide) (by decide)
  have hr := Int.emod_nonneg (z / 1000003) (show (1000003 : Int) ≠ 0 by decide)
  have hr2 := Int.emod_lt_of_pos (z / 1000003) (show (0 : Int) < 1000003 by decide)
  have hc3 : CMulX (z / 1000003 % 1000003) 40692 := (Sm.lit (N := 20) (by omega) (by decide)).mul (by decide) (by decide)
  refine st_asg (ev_op (ev_op (ev_mulx (ev_var rfl) ev_c hc1) (ev_mulx (ev_var rfl) ev_c hc2) rv_I0) (ev_mulx (ev_mod (ev_div (ev_var rfl) ev_c (by decide) (by decide)) ev_c (by decide)) ev_c hc3) rv_I0) ?_
  refine st_ret (ev_to (ev_mod (ev_mod (ev_var rfl) (ev_op (ev_var rfl) (ev_mod (ev_var rfl) ev_c (by decide)) (rv_ixT (st_of hp) ha)) hq) (ev_var rfl) (by omega)) ?_) (RetV.ex k e1)
  have h1 := Int.emod_nonneg ((z * 48271 + (n : Int) * 69621 + z / 1000003 % 1000003 * 40692) % prs.getD (n % 8) 1) (show (m : Int) ≠ 0 by omega)
  show V.int ((z * 48271 + (n : Int) * 69621 + z / 1000003 % 1000003 * 40692) % prs.getD (n % 8) 1 % (m : Int)) = V.int ((dr z n m : Nat) : Int)
  unfold dr
  rw [Int.toNat_of_nonneg h1]
theorem ev_number {σ : L2.St} {H : Hp} {n m : Int} {E : XK} {ta : TA} (h : EvA ta σ H [.int n, .int m]) : Ev (tCall (spNumber K) [] E ta) σ H (.bl (decide (0 ≤ n ∧ n < m))) :=
  ev_cal h fun H1 e Q q => ⟨_, _, rfl, .inl ⟨_, rfl, q⟩⟩
theorem evp_cell {σ : L2.St} {H : Hp} {s : Addr} {ns : List Int} {k : Nat} {E : XK} {ta : TA} (h : EvA ta σ H [.ref s, .int (k : Int)]) (hs : SqL K H s (ns.map V.int)) (hb : ∀ z ∈ ns, Builtin.Int.intBits z ≤ 1048576) :
    EvP (tCall (spCell K) [] E ta) σ H (fun v _ _ => ∃ z, v = .int z ∧ Sm 1048576 z) := evp_cal h fun H1 e Q q => ⟨_, _, _, rfl, ex_l e hs, hb, q⟩
theorem ok__law_told (T : Txt K mg a) : Cal P w K mg base CX0 2 "_law_told" ["_law_script", "_law_first"] (spTold K) := by
  obtain ⟨f, fd, F, hm⟩ := T.d__law_told
  refine ⟨f, fd, F.ok sc__law_told (fun vs H Q E h => by first | (obtain ⟨_, rfl, _⟩ := h; rfl) | (obtain ⟨_, _, rfl, _⟩ := h; rfl) | (obtain ⟨_, _, _, rfl, _⟩ := h; rfl) | (obtain ⟨_, _, _, _, rfl, _⟩ := h; rfl) | (obtain ⟨_, _, _, _, _, rfl, _⟩ := h; rfl) | (obtain ⟨_, _, _, _, _, _, rfl, _⟩ := h; rfl) | (obtain ⟨_, _, _, _, _, _, _, rfl, _⟩ := h; rfl) | (obtain ⟨_, _, _, _, _, _, _, _, rfl, _⟩ := h; rfl) | (obtain ⟨_, _, _, _, _, _, _, _, _, rfl, _⟩ := h; rfl) | (obtain ⟨_, _, _, _, _, _, _, _, _, _, rfl, _⟩ := h; rfl) | (obtain ⟨_, _, _, _, _, _, _, _, _, _, _, rfl, _⟩ := h; rfl) | (obtain ⟨_, _, _, _, _, _, _, _, _, _, _, _, rfl, _⟩ := h; rfl) | (obtain ⟨_, _, _, _, _, _, _, _, _, _, _, _, _, rfl, _⟩ := h; rfl) | (obtain ⟨_, _, _, _, _, _, _, _, _, _, _, _, _, _, rfl, _⟩ := h; rfl) | (obtain ⟨_, _, _, _, _, _, _, _, _, _, _, _, _, _, _, rfl, _⟩ := h; rfl) | (obtain ⟨_, _, _, _, _, _, _, _, _, _, _, _, _, _, _, _, rfl, _⟩ := h; rfl) | (obtain ⟨_, _, _, _, _, _, _, _, _, _, _, _, _, _, _, _, _, rfl, _⟩ := h; rfl) | (obtain ⟨_, _, _, _, _, _, _, _, _, _, _, _, _, _, _, _, _, _, rfl, _⟩ := h; rfl) | (obtain ⟨_, _, _, _, _, _, _, _, _, _, _, _, _, _, _, _, _, _, _, rfl, _⟩ := h; rfl) | (obtain ⟨_, _, _, _, _, _, _, _, _, _, _, _, _, _, _, _, _, _, _, _, rfl, _⟩ := h; rfl) | (obtain ⟨_, _, _, _, _, _, _, _, _, _, _, _, _, _, _, _, _, _, _, _, _, rfl, _⟩ := h; rfl) | (obtain ⟨_, _, _, _, _, _, _, _, _, _, _, _, _, _, _, _, _, _, _, _, _, _, rfl, _⟩ := h; rfl) | (obtain ⟨_, _, _, _, _, _, _, _, _, _, _, _, _, _, _, _, _, _, _, _, _, _, _, rfl, _⟩ := h; rfl)) (fun cdv A outer s H vs Q E hr h => ?_), hm, F.kp, F.binds (ps := ["_law_script", "_law_first"]) fun _ _ _ _ _ _ us hl => match us, hl with | [_, _], _ => rfl⟩
  refine ⟨_, (pss_cons (pset 2 sc__law_told.nd (pe_cal (ok__law_cell_at (K := K) (a := a) T) (hr.mono (by decide)) pass0 (pa_cons (pv 0) (pa_cons (pv 1) pa_nil))))
    (pss_cons (pset 3 sc__law_told.nd (pe_cal (ok__law_cell_at (K := K) (a := a) T) (hr.mono (by decide)) pass0 (pa_cons (pv 0) (pa_cons (pe_op op_add (pv 1) pe_int) pa_nil))))
    (pss_cons (pset 4 sc__law_told.nd (pe_ix (ix_tupK K) (pe_tup (pa_cons pe_int (pa_cons pe_int (pa_cons pe_int (pa_cons pe_int (pa_cons pe_int (pa_cons pe_int (pa_cons pe_int pa_nil)))))))) (pe_op op_mod (pv 2) pe_int) (fun _ _ => rfl)))
    (pss_cons (pset 5 sc__law_told.nd (pe_ix (ix_tupK K) (pe_tup (pa_cons pe_int (pa_cons pe_int (pa_cons pe_int (pa_cons pe_int (pa_cons pe_int (pa_cons pe_int (pa_cons pe_int (pa_cons pe_int pa_nil))))))))) (pe_op op_mod (pe_op op_fdiv (pv 2) pe_int) pe_int) (fun _ _ => rfl)))
    (pss_cut (ps_if (pt_cmpR op_eq (pe_op op_mod (pe_op op_fdiv (pv 2) pe_int) pe_int) pe_int (nomark _)) (pss_cons (pset 4 sc__law_told.nd (pe_op op_add pe_int (pe_op op_mod (pe_op op_fdiv (pv 2) pe_int) pe_int)))
    (pss_one (pset 5 sc__law_told.nd (pe_ix (ix_tupK K) (pe_tup (pa_cons pe_int (pa_cons pe_int (pa_cons pe_int (pa_cons pe_int (pa_cons pe_int (pa_cons pe_int pa_nil))))))) (pe_op op_mod (pe_op op_fdiv (pv 2) pe_int) pe_int) (fun _ _ => rfl))))) pss_nil)
    (pss_cons (pset 6 sc__law_told.nd (pe_lst pa_nil))
    (pss_cons (ps_for PassesOwn.never rfl (pi_range1 (by rfl) T.n_range (pa_cons (pv 5) pa_nil)) (pgn 7 sc__law_told.nd) (pss_cons (pset 8 sc__law_told.nd (pe_cal (ok__law_draw (K := K) (a := a) T) (hr.mono (by decide)) pass0 (pa_cons (pe_op op_add (pe_op op_fdiv (pv 3) pe_int) (pe_op op_mulX pe_int (pv 7))) (pa_cons pe_int (pa_cons (pe_op op_shl pe_int (pv 4)) pa_nil)))))
    (pss_cut (ps_if (pt_cmpR op_eq (pe_op op_mod (pe_op op_fdiv (pv 2) pe_int) pe_int) pe_int (nomark _)) (pss_one (pset 8 sc__law_told.nd (pe_op op_and (pv 8) (pe_cal (ok__law_draw (K := K) (a := a) T) (hr.mono (by decide)) pass0 (pa_cons (pe_op op_add (pe_op op_fdiv (pv 3) pe_int) (pe_op op_mulX pe_int (pv 7))) (pa_cons pe_int (pa_cons (pe_op op_shl pe_int (pv 4)) pa_nil))))))) pss_nil)
    (pss_cut (ps_if (PW.pt (pw_and (pt_cmpR op_gt (pv 7) pe_int (nomark _)) (pw_and1 (pt_cmpR op_eq (pe_cal (ok__law_draw (K := K) (a := a) T) (hr.mono (by decide)) pass0 (pa_cons (pe_op op_add (pe_op op_fdiv (pv 3) pe_int) (pe_op op_mulX pe_int (pv 7))) (pa_cons pe_int (pa_cons pe_int pa_nil)))) pe_int (nomark _))))) (pss_one (pset 8 sc__law_told.nd (pe_op op_xor (pe_ix (ix_listK K) (pv 6) (pe_op op_sub (pv 7) pe_int) (fun _ _ => rfl)) (pe_ix (ix_listK K) (pv 6) (pe_op op_sub (pv 7) pe_int) (fun _ _ => rfl))))) pss_nil)
    (pss_one (ps_expr (pe_bm PySem.F.plainAttrs_list PySem.F.slot_list_append PySem.F.type_list_append mt_append (pv 6) (pa_cons (pv 8) pa_nil))))))))
    (pss_one (ps_ret (pe_tup (pa_cons (pv 4) (pa_cons (pv 6) pa_nil)))))))))))), ?_⟩
  obtain ⟨s, ns, n, rfl, hs, hb, k⟩ := h
  refine St.at ?_
  refine st_asgP (H := H) (evp_cell (by walk_at "ea") hs hb) fun v1 _ H1 e1 _ p1 => ?_
  obtain ⟨c, rfl, hc⟩ := p1
  refine st_asgP (evp_cell (k := n + 1) (ea_cons (ev_var rfl) (ea_cons (ev_op (ev_var rfl) ev_c rv_I0) ea_nil)) (ex_l e1 hs) hb) fun v2 _ H2 e2 _ p2 => ?_
  obtain ⟨o, rfl, ho⟩ := p2
  have e12 := e1.trans e2
  obtain ⟨v3, hv3, ha3⟩ := atI_mod (xs := [.int 3, .int 4, .int 5, .int 2, .int 4, .int 6, .int 1]) c (n := 7) rfl (by decide)
  obtain ⟨L0, rfl, l1, l2⟩ : ∃ L : Nat, v3 = .int (L : Int) ∧ 1 ≤ L ∧ L ≤ 10 := by
    simp only [List.mem_cons, List.not_mem_nil, or_false] at hv3
    rcases hv3 with rfl | rfl | rfl | rfl | rfl | rfl | rfl
    · exact ⟨3, rfl, by decide, by decide⟩
    · exact ⟨4, rfl, by decide, by decide⟩
    · exact ⟨5, rfl, by decide, by decide⟩
    · exact ⟨2, rfl, by decide, by decide⟩
    · exact ⟨4, rfl, by decide, by decide⟩
    · exact ⟨6, rfl, by decide, by decide⟩
    · exact ⟨1, rfl, by decide, by decide⟩
  obtain ⟨v4, hv4, ha4⟩ := atI_mod (xs := [.int 3, .int 2, .int 4, .int 0, .int 5, .int 3, .int 4, .int 1]) (c / 7) (n := 8) rfl (by decide)
  obtain ⟨m0, rfl, m1⟩ : ∃ m : Nat, v4 = .int (m : Int) ∧ m ≤ 8 := by
    simp only [List.mem_cons, List.not_mem_nil, or_false] at hv4
    rcases hv4 with rfl | rfl | rfl | rfl | rfl | rfl | rfl | rfl
    · exact ⟨3, rfl, by decide⟩
    · exact ⟨2, rfl, by decide⟩
    · exact ⟨4, rfl, by decide⟩
    · exact ⟨0, rfl, by decide⟩
    · exact ⟨5, rfl, by decide⟩
    · exact ⟨3, rfl, by decide⟩
    · exact ⟨4, rfl, by decide⟩
    · exact ⟨1, rfl, by decide⟩
  refine st_asg (ev_ixU (eu_tup (by walk_at "ea") (by decide)) (ev_mod (ev_var rfl) ev_c (by decide)) ha3) ?_
  refine st_asg (ev_ixU (eu_tup (by walk_at "ea") (by decide)) (ev_mod (ev_div (ev_var rfl) ev_c (by decide) (by decide)) ev_c (by decide)) ha4) ?_
  refine st_cut (fun σ' => ∃ L m : Nat, 1 ≤ L ∧ L ≤ 10 ∧ m ≤ 8 ∧ σ' = [some (.ref s), some (.int (n : Int)), some (.int c), some (.int o), some (.int (L : Int)), some (.int (m : Int)), none, none, none]) ?_ ?_
  · refine st_when1 (ev_test_eq (ev_mod (ev_div (ev_var rfl) ev_c (by decide) (by decide)) ev_c (by decide)) ev_c) (fun _ => ?_) (fun _ H3 e3 => ⟨e3, L0, m0, l1, l2, m1, rfl⟩)
    obtain ⟨v5, hv5, ha5⟩ := atI_mod (xs := [.int 5, .int 5, .int 6, .int 5, .int 5, .int 8]) (c / 672) (n := 6) rfl (by decide)
    obtain ⟨m2, rfl, m3⟩ : ∃ m : Nat, v5 = .int (m : Int) ∧ m ≤ 8 := by
      simp only [List.mem_cons, List.not_mem_nil, or_false] at hv5
      rcases hv5 with rfl | rfl | rfl | rfl | rfl | rfl
      · exact ⟨5, rfl, by decide⟩
      · exact ⟨5, rfl, by decide⟩
      · exact ⟨6, rfl, by decide⟩
      · exact ⟨5, rfl, by decide⟩
      · exact ⟨5, rfl, by decide⟩
      · exact ⟨8, rfl, by decide⟩
    have h1 := Int.emod_nonneg (c / 672) (show (4 : Int) ≠ 0 by decide)
    have h2 := Int.emod_lt_of_pos (c / 672) (show (0 : Int) < 4 by decide)
    obtain ⟨r, hr⟩ := Int.eq_ofNat_of_zero_le h1
    refine st_asg (v := .int ((7 + r : Nat) : Int)) (ev_to (ev_op ev_c (ev_mod (ev_div (ev_var rfl) ev_c (by decide) (by decide)) ev_c (by decide)) rv_I0) (by rw [hr]; rfl)) ?_
    exact st_asg1 (ev_ixU (eu_tup (by walk_at "ea") (by decide)) (ev_mod (ev_div (ev_var rfl) ev_c (by decide) (by decide)) ev_c (by decide)) ha5) fun H3 e3 => ⟨e3, 7 + r, m2, by omega, by omega, m3, rfl⟩
  rintro σ' ⟨L, m, l1, l2, m1, rfl⟩
  refine st_asgL (el_lst ea_nil (by decide)) fun l H3 nl e3 hl => ?_
  have e03 := e12.trans e3
  have hsh : ∀ (H : Hp) (v7 v8 : Option V), Ev (tOp (rI CPow fun i j => .int (i * 2 ^ j.toNat)) (tC (.int 1)) (tVar 4)) [some (.ref s), some (.int (n : Int)), some (.int c), some (.int o), some (.int (L : Int)), some (.int (m : Int)), some (.ref l), v7, v8] H (.int ((2 ^ L : Nat) : Int)) := fun H v7 v8 => ev_shl1 ev_c (ev_var rfl) (by omega)
  refine st_forR1 (by walk_at "ea") (by omega) (fun i σ' H' => Ex H2 H' ∧ ∃ (ts : List Nat) (v7 v8 : Option V), H' l = some (.lst (nats ts)) ∧ ts.length = i ∧ (∀ t ∈ ts, t < 2 ^ L) ∧
    σ' = [some (.ref s), some (.int (n : Int)), some (.int c), some (.int o), some (.int (L : Int)), some (.int (m : Int)), some (.ref l), v7, v8]) (fun H4 e4 => ⟨e3.trans e4, [], none, none, e4 _ _ hl, rfl, (fun _ h => nomatch h), rfl⟩) ?_ ?_
  · rintro i σ' H' hi ⟨e, ts, v7, v8, hL, hlen, hlow, rfl⟩
    have hp2 : 0 < 2 ^ L := Nat.two_pow_pos L
    refine St.at ?_
    refine st_asgD (N := 1048577) (m := 2 ^ L) (k := 1) (ea_cons (ev_op (ev_div (ev_var rfl) ev_c (by decide) (by decide)) (ev_mulx ev_c (ev_var rfl) ((Sm.lit (N := 20) (by decide) (by decide)).mul (by omega) (by decide))) rv_I0) (ea_cons ev_c (ea_cons (hsh _ _ _) ea_nil))) ((ho.div (by decide)).add (Sm.lit (by omega) (by decide))) (by decide) (by decide) hp2 fun r hr => ?_
    refine st_cut (fun σ' => ∃ r : Nat, r < 2 ^ L ∧ σ' = [some (.ref s), some (.int (n : Int)), some (.int c), some (.int o), some (.int (L : Int)), some (.int (m : Int)), some (.ref l), some (.int (i : Int)), some (.int (r : Int))]) ?_ ?_
    · refine st_when1 (ev_test_eq (ev_mod (ev_div (ev_var rfl) ev_c (by decide) (by decide)) ev_c (by decide)) ev_c) (fun _ => ?_) (fun _ H4 e4 => ⟨e4, r, hr, rfl⟩)
      refine st_asgP1 (P := fun v _ _ => ∃ r : Nat, v = .int (r : Int) ∧ r < 2 ^ L) (evp_bind2r (ev_var rfl) (evp_draw (N := 1048577) (m := 2 ^ L) (k := 2) (ea_cons (ev_op (ev_div (ev_var rfl) ev_c (by decide) (by decide)) (ev_mulx ev_c (ev_var rfl) ((Sm.lit (N := 20) (by decide) (by decide)).mul (by omega) (by decide))) rv_I0) (ea_cons ev_c (ea_cons (hsh _ _ _) ea_nil))) ((ho.div (by decide)).add (Sm.lit (by omega) (by decide))) (by decide) (by decide) hp2) ?_) ?_
      · rintro v fr H4 e4 ⟨r2, rfl, hr2⟩ Q' q'
        exact ⟨_, _, rfl, rfl, q' _ (fun _ => False) H4 (Ex.refl _) (fun _ f => f.elim) ⟨r &&& r2, by show V.int (Builtin.bitAnd (r : Int) (r2 : Int)) = _; rw [band], Nat.lt_of_le_of_lt Nat.and_le_left hr⟩⟩
      · rintro v fr H4 e4 _ ⟨r2, rfl, hr2⟩
        exact ⟨e4, r2, hr2, rfl⟩
    rintro σ' ⟨r, hr, rfl⟩
    refine st_cut (fun σ' => ∃ r : Nat, r < 2 ^ L ∧ σ' = [some (.ref s), some (.int (n : Int)), some (.int c), some (.int o), some (.int (L : Int)), some (.int (m : Int)), some (.ref l), some (.int (i : Int)), some (.int (r : Int))]) ?_ ?_
    · refine st_anyIf (b := decide ((1 : Int) < (i : Int))) (et_test (ev_op (ev_var rfl) ev_c rv_I0)) (fun hgt => etp_test (P := fun v _ _ => ∃ b, v = .bl b) (evp_bind2 (evp_draw (N := 1048577) (m := 4) (k := 3) (ea_cons (ev_op (ev_div (ev_var rfl) ev_c (by decide) (by decide)) (ev_mulx ev_c (ev_var rfl) ((Sm.lit (N := 20) (by decide) (by decide)).mul (by omega) (by decide))) rv_I0) (ea_cons ev_c (ea_cons ev_c ea_nil))) ((ho.div (by decide)).add (Sm.lit (by omega) (by decide))) (by decide) (by decide) (by decide)) ev_c ?_) fun v _ _ h => h) (fun hgt => ?_) (fun H4 e4 => ⟨e4, r, hr, rfl⟩)
      · rintro v fr H4 e4 ⟨r2, rfl, hr2⟩ H5 e5 Q' q'
        exact ⟨rfl, q' _ (fun _ => False) H5 (Ex.refl _) (fun _ f => f.elim) ⟨_, rfl⟩⟩
      · have h2 : 1 < i := by
          have := of_decide_eq_true hgt
          omega
        refine st_asg1 (v := .int ((ts.getD (i - 1) 0 ^^^ ts.getD (i - 2) 0 : Nat) : Int)) (ev_op (ev_op (ev_var rfl) (ev_op (ev_var rfl) ev_c rv_I0) (rv_ixNI (i := i - 1) (sq_of hL) (by omega) (by omega))) (ev_op (ev_var rfl) (ev_op (ev_var rfl) ev_c rv_I0) (rv_ixNI (i := i - 2) (sq_of hL) (by omega) (by omega))) rv_xorN) fun H4 e4 => ⟨e4, _, Nat.xor_lt_two_pow (getD_lt hlow _) (getD_lt hlow _), rfl⟩
    rintro σ' ⟨r, hr, rfl⟩
    refine st_app1 hL (ev_var rfl) (ev_var rfl) (by rw [nats_len]; omega) fun H4 e4 => ?_
    have nl2 : H2 l = none := nl
    refine ⟨(e.trans e4).mut nl2, ts ++ [r], some (.int (i : Int)), some (.int (r : Int)), ?_, ?_, ?_, rfl⟩
    · rw [upd_same, nats_app]
      rfl
    · rw [List.length_append, hlen]
      rfl
    · intro t ht
      rcases List.mem_append.mp ht with ht | ht
      · exact hlow t ht
      · rw [List.mem_singleton.mp ht]
        exact hr
  · rintro σ' H' ⟨e, ts, v7, v8, hL, hlen, hlow, rfl⟩
    refine St.at ?_
    refine st_retP (eu_p (eu_tup (by walk_at "ea") (by show 2 ≤ 100000; decide))) ?_
    rintro v fr H4 e4 f ⟨p, rfl, hp, hpt⟩
    refine k _ (fun b => b = p ∨ b = l) H4 ((e12.trans e).trans e4) (fun b hb => ?_) ⟨p, L, ts, l, rfl, .inl rfl, .inr rfl, ⟨st_of hpt, e4 _ _ hL, ⟨l1, l2, by omega, hlow⟩⟩⟩
    rcases hb with rfl | rfl
    · exact fresh_back (e12.trans e) (f _ hp)
    · exact fresh_back e12 nl
end
end Sw

/-! Equal data; a house's making; lists changed in place. -/
namespace Sw
open PySem PySem.Spec PyProof.Rows L2 Evl
def dN (ns : List Nat) : PyData := .list (ns.map fun n : Nat => .int (n : Int))
def dNN (xs : List (List Nat)) : PyData := .list (xs.map dN)
theorem eqv_nats : ∀ xs ys : List Nat, PyData.eqvAll (xs.map fun n : Nat => PyData.int (n : Int)) (ys.map fun n : Nat => PyData.int (n : Int)) = decide (xs = ys)
  | [], [] => rfl
  | [], _ :: _ => rfl
  | _ :: _, [] => rfl
  | x :: xs, y :: ys => by
    rw [List.map_cons, List.map_cons, PySem.W.eqv_all_cons, eqv_nats xs ys]
    have e : PyData.eqv (.int (x : Int)) (.int (y : Int)) = decide (x = y) := by
      simp only [PyData.eqv]
      by_cases h : x = y
      · simp [h]
      · have : ¬ ((x : Int) = (y : Int)) := by omega
        simp [h, this]
    rw [e]
    by_cases h : x = y <;> by_cases h2 : xs = ys <;> simp [h, h2]
theorem eqv_dN (xs ys : List Nat) : PyData.eqv (dN xs) (dN ys) = decide (xs = ys) := by
  rw [← eqv_nats]
  unfold dN
  simp only [PyData.eqv]
theorem eqv_dNN' : ∀ xs ys : List (List Nat), PyData.eqvAll (xs.map dN) (ys.map dN) = decide (xs = ys)
  | [], [] => rfl
  | [], _ :: _ => rfl
  | _ :: _, [] => rfl
  | x :: xs, y :: ys => by
    rw [List.map_cons, List.map_cons, PySem.W.eqv_all_cons, eqv_dNN' xs ys, eqv_dN]
    by_cases h : x = y <;> by_cases h2 : xs = ys <;> simp [h, h2]
theorem eqv_dNN (xs ys : List (List Nat)) : PyData.eqv (dNN xs) (dNN ys) = decide (xs = ys) := by
  rw [← eqv_dNN']
  unfold dNN
  simp only [PyData.eqv]
theorem can_nats : ∀ ns : List Nat, PyData.canLayAll0 (ns.map fun n : Nat => PyData.int (n : Int)) = true
  | [] => rfl
  | n :: ns => by
    rw [List.map_cons]
    show (PyData.canLay0 (.int (n : Int)) && PyData.canLayAll0 _) = true
    rw [can_nats ns]
    rfl
theorem depth_nats : ∀ ns : List Nat, PyData.depthAll (ns.map fun n : Nat => PyData.int (n : Int)) = 0
  | [] => rfl
  | n :: ns => by
    rw [List.map_cons]
    show max (PyData.depth (.int (n : Int))) (PyData.depthAll _) = 0
    rw [depth_nats ns]
    rfl
theorem shaped_dN (ns : List Nat) : SeqAt.shaped (dN ns) = true := by
  unfold SeqAt.shaped dN
  have h1 : PyData.canLay0 (.list (ns.map fun n : Nat => PyData.int (n : Int))) = true := can_nats ns
  have h2 : PyData.depth (.list (ns.map fun n : Nat => PyData.int (n : Int))) = 1 := by simp only [PyData.depth, depth_nats]
  rw [h1, h2]
  rfl
theorem can_dN : ∀ xs : List (List Nat), PyData.canLayAll0 (xs.map dN) = true
  | [] => rfl
  | x :: xs => by
    rw [List.map_cons]
    show (PyData.canLay0 (dN x) && PyData.canLayAll0 _) = true
    rw [can_dN xs]
    have h1 : PyData.canLay0 (dN x) = true := can_nats x
    rw [h1]
    rfl
theorem depth_dN : ∀ xs : List (List Nat), PyData.depthAll (xs.map dN) ≤ 1
  | [] => Nat.zero_le _
  | x :: xs => by
    rw [List.map_cons]
    show max (PyData.depth (dN x)) (PyData.depthAll _) ≤ 1
    have h2 : PyData.depth (dN x) = 1 := by
      unfold dN
      simp only [PyData.depth, depth_nats]
    have := depth_dN xs
    omega
theorem shaped_dNN (xs : List (List Nat)) : SeqAt.shaped (dNN xs) = true := by
  unfold SeqAt.shaped dNN
  have h1 : PyData.canLay0 (.list (xs.map dN)) = true := can_dN xs
  have h2 : PyData.depth (.list (xs.map dN)) ≤ 2 := by
    simp only [PyData.depth]
    have := depth_dN xs
    omega
  rw [h1, decide_eq_true (by omega)]
  rfl
section
variable {K : PySem.W.Frag} {σ : L2.St} {H H' : Hp} {te ta tb : TE}
theorem dpa_nats {H : Hp} : ∀ ns : List Nat, DpAll K H (nats ns) (ns.map fun n : Nat => PyData.int (n : Int))
  | [] => .nil
  | n :: ns => .cons (.int (n : Int)) (dpa_nats ns)
theorem dp_nats {p : Addr} {ns : List Nat} (h : SqL K H p (nats ns)) : Dp K H (.ref p) (dN ns) := .lst h (dpa_nats ns)
theorem rv_eqD {x y : V} {d e : PyData} (hd : ∀ H1, Ex H H1 → Dp K H1 x d) (he : ∀ H1, Ex H H1 → Dp K H1 y e) (sd : SeqAt.shaped d = true) (se : SeqAt.shaped e = true) : RV (rEqD K) x y H (.bl (PyData.eqv d e)) := fun H1 a _ q => ⟨d, e, hd H1 a, he H1 a, sd, se, q H1 (Ex.refl H1)⟩
theorem rv_neD {x y : V} {d e : PyData} (hd : ∀ H1, Ex H H1 → Dp K H1 x d) (he : ∀ H1, Ex H H1 → Dp K H1 y e) (sd : SeqAt.shaped d = true) (se : SeqAt.shaped e = true) : RV (rNeD K) x y H (.bl (!PyData.eqv d e)) := fun H1 a _ q => ⟨d, e, hd H1 a, he H1 a, sd, se, q H1 (Ex.refl H1)⟩
theorem rv_eqN {p q : Addr} {xs ys : List Nat} (hp : SqL K H p (nats xs)) (hq : SqL K H q (nats ys)) : RV (rEqD K) (.ref p) (.ref q) H (.bl (decide (xs = ys))) := by
  rw [← eqv_dN]
  exact rv_eqD (fun H1 e => dp_nats (ex_l e hp)) (fun H1 e => dp_nats (ex_l e hq)) (shaped_dN _) (shaped_dN _)
theorem rv_neN {p q : Addr} {xs ys : List Nat} (hp : SqL K H p (nats xs)) (hq : SqL K H q (nats ys)) : RV (rNeD K) (.ref p) (.ref q) H (.bl (!decide (xs = ys))) := by
  rw [← eqv_dN]
  exact rv_neD (fun H1 e => dp_nats (ex_l e hp)) (fun H1 e => dp_nats (ex_l e hq)) (shaped_dN _) (shaped_dN _)
/-- == where the left one is new -/
theorem ev_eqL {r : R2} {xs : List V} {y z : V} (ha : EvL ta σ H xs) (hb : Ev tb σ H y) (hr : ∀ p H1, Ex H H1 → H1 p = some (.lst xs) → RV r (.ref p) y H1 z) : Ev (tOp r ta tb) σ H z := fun H1 e Q q =>
  ha H1 e _ fun p H2 _ e2 hp => hb H2 (e.trans e2) _ fun H3 e3 => hr p H3 ((e.trans e2).trans e3) (e3 _ _ hp) H3 (Ex.refl H3) Q fun H4 e4 => q H4 ((e2.trans e3).trans e4)
/-- facts behind a change at q, a list -/
theorem SqL.mut {p q : Addr} {xs ys : List V} (h : Rd H p (.lst xs)) (n : p ≠ q) (b : But q H H') : Rd H' p (.lst xs) := rd_but h b n
theorem ToldAt.mut {p q l : Addr} {L : Nat} {ts : List Nat} {ys : List V} (x : ToldAt K H p L ts l) (hq : H q = some (.lst ys)) (n : l ≠ q) (b : But q H H') : ToldAt K H' p L ts l := by
  refine ⟨?_, b _ _ x.lst n, x.ok⟩
  rcases x.tup with h | h
  · refine .inl (rd_but h b ?_)
    rintro rfl
    rcases h with h | ⟨o, h⟩ <;> rw [hq] at h <;> cases h
  · exact .inr h
theorem HouseAt.mut {a : Ad} {h q dx l : Addr} {L : Nat} {ts : List Nat} {ys : List V} (x : HouseAt K a H h L ts dx l) (hq : H q = some (.lst ys)) (n : l ≠ q) (b : But q H H') : HouseAt K a H' h L ts dx l :=
  ⟨b _ _ x.ins (fun z => by
    have h1 := x.ins
    rw [z, hq] at h1
    cases h1), b _ _ x.lst n, x.ok⟩
theorem evp_house {a : Ad} {E : XK} {ta : TA} {s : Addr} {L : Nat} {ts : List Nat} (h : EvA ta σ H [.int (L : Int), .ref s]) (hs : Rd H s (.lst (nats ts))) (ok : HouseOk L ts) :
    EvP (tMake a.House (spHouse K a) [] E ta) σ H (fun v fr H2 => ∃ h dx l, v = .ref h ∧ fr h ∧ fr l ∧ HouseAt K a H2 h L ts dx l) := fun H1 e Q q =>
  h H1 e _ fun H2 e2 x dx nx nd ne => by
    have e3 : Ex H2 (upd (upd H2 dx (.own x)) x (.ins a.House dx [])) := fun b o hb => by
      rw [upd_ne (ne_of_none hb nx), upd_ne (ne_of_none hb nd)]
      exact hb
    have hs2 := ex_rd (e.trans e2) hs
    refine ⟨x, dx, L, s, ts, rfl, upd_same, ex_rd e3 hs2, ok, fun H' l hl hbut hh => ?_⟩
    have nlx : l ≠ x := fun z => by rw [z, upd_same] at hl; cases hl
    have nld : l ≠ dx := fun z => by rw [z, upd_ne ne, upd_same] at hl; cases hl
    have hl2 : H2 l = none := by rw [upd_ne nlx, upd_ne nld] at hl; exact hl
    refine ⟨rfl, q (.ref x) (fun b => b = x ∨ b = l) H' (fun b o hb => ?_) (fun b hb => ?_) ⟨x, dx, l, rfl, .inl rfl, .inr rfl, hh⟩⟩
    · exact hbut b o (e3 b o (e2 b o hb)) (ne_of_none (e2 b o hb) nx)
    · rcases hb with rfl | rfl
      · exact fresh_back e2 nx
      · exact fresh_back e2 hl2
theorem seq_keep {s q : Addr} {H3 G : Hp} {xs : List V} (hs : SqL K H s xs) (hq : H q = none) (e : Ex H H3) (b : But q H3 G) : SqL K G s xs := by
  rcases hs with r | r
  · refine .inl (rd_but (ex_rd e r) b ?_)
    rintro rfl
    rcases r with r | ⟨o, r⟩ <;> rw [hq] at r <;> cases r
  · exact .inr r
end
end Sw

/-! Answers: their own words. -/
namespace Sw
open PySem PySem.Spec PyProof.Rows L2 Evl
def zints (ns : List Int) : List V := ns.map V.int
theorem zints_len (ns : List Int) : (zints ns).length = ns.length := by unfold zints; rw [List.length_map]
theorem zints_at {ns : List Int} {i : Nat} {v : V} (h : (zints ns)[i]? = some v) : ∃ n, ns[i]? = some n ∧ v = .int n := by
  unfold zints at h
  rw [List.getElem?_map] at h
  cases e : ns[i]? with
  | none => rw [e] at h; cases h
  | some n =>
    rw [e] at h
    exact ⟨n, rfl, (Option.some.inj h).symm⟩
theorem zints_nint (ns : List Nat) : zints (nint ns) = nats ns := by
  unfold zints nint nats
  rw [List.map_map]
  rfl
/-- a Press with its list at q; an Even -/
def PressAt (a : Ad) (H : Hp) (x q : Addr) : Prop := ∃ dx, H x = some (.ins a.Press dx (putF "press" (.ref q) []))
def EvenAt (a : Ad) (H : Hp) (x : Addr) (n : Nat) : Prop := ∃ dx, H x = some (.ins a.Even dx (putF "lamps" (.int (n : Int)) []))
theorem PressAt.ex {a : Ad} {H H' : Hp} {x q : Addr} (h : PressAt a H x q) (e : Ex H H') : PressAt a H' x q := let ⟨dx, i⟩ := h; ⟨dx, e _ _ i⟩
theorem EvenAt.ex {a : Ad} {H H' : Hp} {x : Addr} {n : Nat} (h : EvenAt a H x n) (e : Ex H H') : EvenAt a H' x n := let ⟨dx, i⟩ := h; ⟨dx, e _ _ i⟩
theorem one_put (f : Str) (v : V) : (putF f v []).lookup f = some v := by
  rw [lookup_putF, if_pos rfl]
theorem one_no {f m : Str} (v : V) (h : ¬ m = f) : (putF f v []).lookup m = none := by
  rw [lookup_putF, if_neg h]
  rfl
def spIsOdd : Sp := fun vs H Q _ => ∃ n : Nat, vs = [.int (n : Int)] ∧ RetV (.bl (par n)) H Q
def spPress (K : PySem.W.Frag) (a : Ad) : Sp := fun vs H Q _ => ∃ (x dx s : Addr) (xs : List V), vs = [.ref x, .ref s] ∧ H x = some (.ins a.Press dx []) ∧ Rd H s (.lst xs) ∧
  ∀ H' q, H q = none → But x H H' → PressAt a H' x q → H' q = some (.lst xs) → Q .non H'
def spEven (a : Ad) : Sp := fun vs H Q _ => ∃ (x dx : Addr) (n : Nat), vs = [.ref x, .int (n : Int)] ∧ H x = some (.ins a.Even dx []) ∧ ∀ H', But x H H' → EvenAt a H' x n → Q .non H'
def spBrings (K : PySem.W.Frag) (a : Ad) : Sp := fun vs H Q _ => ∃ (x q h : Addr) (ps : List Int) (L : Nat) (ts : List Nat) (dx l : Addr) (s d k : Nat), vs = [.ref x, .ref h, .int (s : Int), .int (d : Int), .int (k : Int)] ∧
  PressAt a H x q ∧ SqL K H q (zints ps) ∧ HouseAt K a H h L ts dx l ∧ RetV (.bl (bringsB ts ps (s ^^^ d) k)) H Q
def barsB (ts : List Nat) (n d k : Nat) : Bool := decide (n &&& k = n) && par (n &&& d) && ts.all fun t => !par (n &&& t)
def spBars (K : PySem.W.Frag) (a : Ad) : Sp := fun vs H Q _ => ∃ (x h : Addr) (n : Nat) (L : Nat) (ts : List Nat) (dx l : Addr) (s d k : Nat), vs = [.ref x, .ref h, .int (s : Int), .int (d : Int), .int (k : Int)] ∧
  EvenAt a H x n ∧ HouseAt K a H h L ts dx l ∧ RetV (.bl (barsB ts n (s ^^^ d) k)) H Q
section
variable {K : PySem.W.Frag} {σ : L2.St} {H H' : Hp} {te : TE}
theorem But.ex {q : Addr} {G : Hp} (b : But q H H') (e : Ex G H) (n : G q = none) : Ex G H' := fun c o h => b c o (e c o h) (ne_of_none h n)
/-- a new instance and what its making leaves -/
theorem made_ex {x dx C : Addr} (nx : H x = none) (nd : H dx = none) : Ex H (upd (upd H dx (.own x)) x (.ins C dx [])) := fun b o hb => by
  rw [upd_ne (ne_of_none hb nx), upd_ne (ne_of_none hb nd)]
  exact hb
theorem evp_press {a : Ad} {E : XK} {ta : TA} {s : Addr} {xs : List V} (h : EvA ta σ H [.ref s]) (hs : Rd H s (.lst xs)) :
    EvP (tMake a.Press (spPress K a) [] E ta) σ H (fun v fr H2 => ∃ x q, v = .ref x ∧ fr x ∧ fr q ∧ x ≠ q ∧ PressAt a H2 x q ∧ H2 q = some (.lst xs)) := fun H1 e Q q =>
  h H1 e _ fun H2 e2 x dx nx nd ne => by
    have e3 : Ex H2 (upd (upd H2 dx (.own x)) x (.ins a.Press dx [])) := made_ex nx nd
    refine ⟨x, dx, s, xs, rfl, upd_same, ex_rd e3 (ex_rd (e.trans e2) hs), fun H' l hl hbut hh hlx => ?_⟩
    have nlx : l ≠ x := fun z => by rw [z, upd_same] at hl; cases hl
    have nld : l ≠ dx := fun z => by rw [z, upd_ne ne, upd_same] at hl; cases hl
    have hl2 : H2 l = none := by rw [upd_ne nlx, upd_ne nld] at hl; exact hl
    refine ⟨rfl, q (.ref x) (fun b => b = x ∨ b = l) H' (fun b o hb => ?_) (fun b hb => ?_) ⟨x, l, rfl, .inl rfl, .inr rfl, nlx.symm, hh, hlx⟩⟩
    · exact hbut b o (e3 b o (e2 b o hb)) (ne_of_none (e2 b o hb) nx)
    · rcases hb with rfl | rfl
      · exact fresh_back e2 nx
      · exact fresh_back e2 hl2
theorem evp_even {a : Ad} {E : XK} {ta : TA} {n : Nat} (h : EvA ta σ H [.int (n : Int)]) :
    EvP (tMake a.Even (spEven a) [] E ta) σ H (fun v fr H2 => ∃ x, v = .ref x ∧ fr x ∧ EvenAt a H2 x n) := fun H1 e Q q =>
  h H1 e _ fun H2 e2 x dx nx nd ne => by
    have e3 : Ex H2 (upd (upd H2 dx (.own x)) x (.ins a.Even dx [])) := made_ex nx nd
    refine ⟨x, dx, n, rfl, upd_same, fun H' hbut hh => ?_⟩
    refine ⟨rfl, q (.ref x) (fun b => b = x) H' (fun b o hb => ?_) (fun b hb => ?_) ⟨x, rfl, rfl, hh⟩⟩
    · exact hbut b o (e3 b o (e2 b o hb)) (ne_of_none (e2 b o hb) nx)
    · rw [hb]
      exact fresh_back e2 nx
end
section
variable {P : Program} {w : World} {K : PySem.W.Frag} {mg : Str → Option Value} {base : Heap} {a : Ad}
end
end Sw

/-! Rows of numbers; sums; bits; crossed. -/
namespace Sw
open PySem PySem.Spec PyProof.Rows L2 Evl
/-- a row where it stands -/
abbrev Qrow := Addr × Nat × Nat
def qV (q : Qrow) : V := .ref q.1
def qcast (q : Qrow) : Prow := (q.1, (q.2.1 : Int), (q.2.2 : Int))
structure RowsAt (K : PySem.W.Frag) (H : Hp) (p : Addr) (qs : List Qrow) : Prop where
  lst : H p = some (.lst (qs.map qV))
  prs : ∀ q ∈ qs, SqT K H q.1 [.int (q.2.1 : Int), .int (q.2.2 : Int)]
theorem RowsAt.ex {K : PySem.W.Frag} {H H' : Hp} {p : Addr} {qs : List Qrow} (h : RowsAt K H p qs) (e : Ex H H') : RowsAt K H' p qs := ⟨e _ _ h.lst, fun q hq => ex_t e (h.prs q hq)⟩
def prGeQ (a b : Qrow) : Bool := prGeN a.2 b.2
theorem prGe_cast (a b : Qrow) : prGeQ a b = prGe (qcast a) (qcast b) := by
  show (!decide (a.2.1 < b.2.1 ∨ (a.2.1 = b.2.1 ∧ a.2.2 < b.2.2))) = !decide ((a.2.1 : Int) < (b.2.1 : Int) ∨ ((a.2.1 : Int) = (b.2.1 : Int) ∧ (a.2.2 : Int) < (b.2.2 : Int)))
  congr 1
  exact decide_eq_decide.mpr (by omega)
theorem sort_cast (qs : List Qrow) : (qs.map qcast).mergeSort prGe = (qs.mergeSort prGeQ).map qcast := (List.map_mergeSort fun a _ b _ => prGe_cast a b).symm
theorem sort_rows (qs : List Qrow) : (qs.mergeSort prGeQ).map (·.2) = (qs.map (·.2)).mergeSort prGeN := List.map_mergeSort fun _ _ _ _ => rfl
def spRowsOf (K : PySem.W.Frag) : Sp := fun vs H Q _ => ∃ (q : Addr) (ns : List Nat), vs = [.ref q] ∧ SqL K H q (nats ns) ∧ ns.length ≤ 100 ∧ RetP (fun v _ H2 => ∃ p qs, v = .ref p ∧ RowsAt K H2 p qs ∧ qs.length ≤ ns.length ∧ RowsOk ns (qs.map (·.2))) H Q
/-- which of some numbers come to one, or bits that bar it -/
def Summed (ns : List Nat) (t : Nat) (v : V) : Prop := (∃ w : Nat, v = .int (w : Int) ∧ w < 2 ^ ns.length ∧ xsel ns w = t) ∨ (v = .non ∧ ∃ x, (∀ n ∈ ns, par (n &&& x) = false) ∧ par (t &&& x) = true)
def spSummed (K : PySem.W.Frag) : Sp := fun vs H Q _ => ∃ (q : Addr) (ns : List Nat) (t : Nat), vs = [.ref q, .int (t : Int)] ∧ SqL K H q (nats ns) ∧ ns.length ≤ 100 ∧ ∀ v H2, Ex H H2 → Summed ns t v → Q v H2
def spBitsOf : Sp := fun vs H Q _ => ∃ n : Nat, vs = [.int (n : Int)] ∧ n < 2 ^ 1000 ∧ RetL (nats (bits n)) H Q
def spCrossed (K : PySem.W.Frag) : Sp := fun vs H Q _ => ∃ (p q : Addr) (ls ns : List Nat), vs = [.ref p, .ref q] ∧ SqL K H p (nats ls) ∧ SqL K H q (nats ns) ∧ ls.length ≤ 1000 ∧ ns.length ≤ 1000 ∧ RetL (nats (ls.map (col ns))) H Q
theorem sum_cast : ∀ ns : List Nat, (ns.map fun n : Nat => (n : Int)).sum = ((ns.sum : Nat) : Int)
  | [] => rfl
  | n :: ns => by
    rw [List.map_cons, List.sum_cons, List.sum_cons, sum_cast ns]
    omega
theorem bit_dec (n i : Nat) : decide (((n / 2 ^ i &&& 1 : Nat) : Int) = 1) = n.testBit i := by
  have := Nat.testBit_div_two_pow (n := i) n 0
  rw [Nat.zero_add] at this
  rw [← this, Nat.testBit_zero, Nat.and_one_is_mod]
  exact decide_eq_decide.mpr (by omega)
section
variable {K : PySem.W.Frag} {σ : L2.St} {H H' : Hp} {te ta tb tc : TE} {P P' : RP}
theorem rv_shrN {i j : Nat} : RV (rI (fun _ j => 0 ≤ j) fun i j => .int (i / 2 ^ j.toNat)) (.int (i : Int)) (.int (j : Int)) H (.int ((i / 2 ^ j : Nat) : Int)) := by
  have e : (i : Int) / 2 ^ ((j : Int).toNat) = ((i / 2 ^ j : Nat) : Int) := by
    rw [Int.toNat_natCast, Int.natCast_ediv, Int.natCast_pow]
    rfl
  rw [← e]
  exact rv_I (C := fun _ j => 0 ≤ j) (Int.natCast_nonneg _)
theorem et_bit {n i : Nat} (ha : Ev ta σ H (.int (n : Int))) (hb : Ev tb σ H (.int (i : Int))) : EvT (tTest (tOp rEq (tOp (rI0 fun i j => .int (Builtin.bitAnd i j)) (tOp (rI (fun _ j => 0 ≤ j) fun i j => .int (i / 2 ^ j.toNat)) ta tb) (tC (.int 1))) (tC (.int 1)))) σ H (n.testBit i) :=
  et_to (et_test (ev_op (ev_op (ev_op ha hb rv_shrN) (ev_to ev_c (show V.int 1 = V.int ((1 : Nat) : Int) from rfl)) rv_andN) ev_c rv_eqI)) (bit_dec n i)
theorem evp_ckw {r : List V → List V → Hp → VK → Prop} {tk : TA} {zs : List V} (ha : EvP te σ H P) (hk : ∀ H1, Ex H H1 → EvA tk σ H1 zs) (hr : ∀ v fr H1 H2, Ex H H1 → Ex H1 H2 → P v fr H1 → ∀ Q : VK, RetP P' H2 Q → r [v] zs H2 Q) : EvP (tCKw r (tCons te tNil) tk) σ H P' := fun H1 e Q q =>
  ha H1 e _ fun v fr H2 e2 _ p => hk H2 (e.trans e2) H2 (Ex.refl _) _ fun H3 e3 => hr v fr H2 H3 (e.trans e2) e3 p Q (q.ex (e2.trans e3))
/-- xs + [(t, w)] -/
theorem evp_more {l : Addr} {qs : List Qrow} {t w : Nat} (ha : Ev ta σ H (.ref l)) (h : RowsAt K H l qs) (ht : Ev tb σ H (.int (t : Int))) (hw : Ev tc σ H (.int (w : Int))) (hz : qs.length ≤ 1000) :
    EvP (tOp rCat ta (tLst (tCons (tTup (tCons tb (tCons tc tNil))) tNil))) σ H (fun v _ H2 => ∃ p u, v = .ref p ∧ RowsAt K H2 p (qs ++ [(u, t, w)])) := fun H1 e Q q =>
  ha H1 e _ fun H2 e2 => ht H2 (e.trans e2) _ fun H3 e3 => hw H3 ((e.trans e2).trans e3) _ fun H4 e4 => ⟨by show 2 ≤ sizeLine; decide, fun u hu => ⟨by show 1 ≤ sizeLine; decide, fun b hb => by
    have e5 : Ex H4 (upd H4 u (.tup [.int (t : Int), .int (w : Int)])) := Ex.new hu
    have e6 : Ex (upd H4 u (.tup [.int (t : Int), .int (w : Int)])) (upd (upd H4 u (.tup [.int (t : Int), .int (w : Int)])) b (.lst [.ref u])) := Ex.new hb
    have eA := ((((e.trans e2).trans e3).trans e4).trans e5).trans e6
    refine ⟨l, b, qs.map qV, [.ref u], rfl, rfl, eA _ _ h.lst, upd_same, sz_of (by rw [List.length_map]; show qs.length + 1 ≤ 100000; omega), fun p hp => ?_⟩
    have e7 := Ex.new (o := .lst (qs.map qV ++ [.ref u])) hp
    refine q (.ref p) (fun _ => False) _ ((((((e2.trans e3).trans e4).trans e5).trans e6)).trans e7) (fun _ f => f.elim) ⟨p, u, rfl, ?_, fun x hx => ?_⟩
    · rw [upd_same, List.map_append]
      rfl
    · rcases List.mem_append.mp hx with hx | hx
      · exact ex_t (eA.trans e7) (h.prs x hx)
      · rw [List.mem_singleton.mp hx]
        exact ex_t (e6.trans e7) (st_of upd_same)⟩⟩
/-- sorted(.., reverse=True) of such -/
theorem evp_sortedQ {tk : TA} {qs : List Qrow} {t w : Nat} (ha : EvP te σ H (fun v _ H2 => ∃ p u, v = .ref p ∧ RowsAt K H2 p (qs ++ [(u, t, w)]))) (hk : ∀ H1, Ex H H1 → EvA tk σ H1 [.bl true]) : EvP (tCKw (rSortedPR K) (tCons te tNil) tk) σ H (fun v _ H2 => ∃ p u, v = .ref p ∧ RowsAt K H2 p ((qs ++ [(u, t, w)]).mergeSort prGeQ)) :=
  evp_ckw ha hk fun v fr H1 H2 e1 e2 p Q q => by
    obtain ⟨l, u, rfl, h⟩ := p
    have h2 := h.ex e2
    refine ⟨l, (qs ++ [(u, t, w)]).map qcast, rfl, rfl, ?_, fun r hr => ?_, fun p hp => ?_⟩
    · rw [List.map_map]
      exact sq_of h2.lst
    · obtain ⟨x, hx, rfl⟩ := List.mem_map.mp hr
      exact h2.prs x hx
    · rw [sort_cast, List.map_map]
      have e3 := Ex.new (o := .lst (((qs ++ [(u, t, w)]).mergeSort prGeQ).map (prV ∘ qcast))) hp
      exact q (.ref p) (fun _ => False) _ e3 (fun _ f => f.elim) ⟨p, u, rfl, upd_same, fun x hx => ex_t e3 (h2.prs x ((List.mergeSort_perm _ _).subset hx))⟩
theorem st_bindFor {g : TG} {tu tz : TS} {D : Ends} (h : EvP te σ H P) (k : ∀ v fr H1, Ex H H1 → P v fr H1 → St (tSeq (tFor (iList K (fun _ H Q => Q v H)) g tu) tz) D σ H1) : St (tSeq (tFor (iList K te) g tu) tz) D σ H := fun H1 a => h H1 a _ fun v fr H2 e _ p => (k v fr H2 (a.trans e) p).at
/-- a loop over rows -/
theorem st_forQ {tl : TE} {i j : Nat} {l : Addr} {qs : List Qrow} {tu tz : TS} {D : Ends} (h : Ev tl σ H (.ref l)) (hq : RowsAt K H l qs) (Pv : Nat → L2.St → Prop) (h0 : Pv 0 σ)
    (hs : ∀ k q σ' H', qs[k]? = some q → Ex H H' → Pv k σ' → St tu { D with nx := fun σ2 H2 => Ex H H2 ∧ Pv (k + 1) σ2, ct := fun σ2 H2 => Ex H H2 ∧ Pv (k + 1) σ2, bk := tz D } ((σ'.set i (some (.int (q.2.1 : Int)))).set j (some (.int (q.2.2 : Int)))) H')
    (hd : ∀ σ' H', Ex H H' → Pv qs.length σ' → St tz D σ' H') : St (tSeq (tFor (iList K tl) (gTup K 2 (gCons (gName i) (gCons (gName j) gNil))) tu) tz) D σ H := by
  refine st_forL h (sq_of hq.lst) (fun k σ' H' => Ex H H' ∧ Pv k σ') (fun H1 e => ⟨e, h0⟩) (fun k σ' H' p => sq_of (p.1 _ _ hq.lst)) ?_ ?_
  · rintro k x σ' H' hx ⟨e, p⟩
    rw [List.getElem?_map] at hx
    cases hk : qs[k]? with
    | none => rw [hk] at hx; cases hx
    | some q =>
      rw [hk] at hx
      obtain rfl : qV q = x := Option.some.inj hx
      have ht := ex_t e (hq.prs q (List.mem_of_getElem? hk))
      exact ⟨q.1, _, rfl, ht, rfl, _, _, rfl, _, _, rfl, rfl, (hs k q σ' H' hk e p).at⟩
  · rintro σ' H' ⟨e, p⟩
    rw [List.length_map] at p
    exact (hd σ' H' e p).at
end
section
variable {P : Program} {w : World} {K : PySem.W.Frag} {mg : Str → Option Value} {base : Heap} {a : Ad}
end
end Sw

/-! What bars, all presses, a telling. -/
namespace Sw
open PySem PySem.Spec PyProof.Rows L2 Evl
/-- presses where they stand -/
abbrev Lrow := Addr × List Nat
def lV (q : Lrow) : V := .ref q.1
def lcast (q : Lrow) : Row := (q.1, nint q.2)
structure LsAt (H : Hp) (p : Addr) (qs : List Lrow) : Prop where
  lst : H p = some (.lst (qs.map lV))
  row : ∀ q ∈ qs, H q.1 = some (.lst (nats q.2))
theorem LsAt.ex {H H' : Hp} {p : Addr} {qs : List Lrow} (h : LsAt H p qs) (e : Ex H H') : LsAt H' p qs := ⟨e _ _ h.lst, fun q hq => e _ _ (h.row q hq)⟩
def leQ (a b : Lrow) : Bool := leP a.2 b.2
theorem lsort_cast (qs : List Lrow) : (qs.map lcast).mergeSort rowLe = (qs.mergeSort leQ).map lcast := (List.map_mergeSort (f := lcast) (r := leQ) (s := rowLe) fun _ _ _ _ => rfl).symm
theorem lsort_rows (qs : List Lrow) : (qs.mergeSort leQ).map (·.2) = (qs.map (·.2)).mergeSort leP := List.map_mergeSort fun _ _ _ _ => rfl
def lamP (ts : List Nat) (d k : Nat) (v : V) : Prop := (∃ n : Nat, v = .int (n : Int) ∧ n &&& k = n ∧ par (n &&& d) = true ∧ ∀ t ∈ ts, par (n &&& t) = false) ∨ (v = .non ∧ ∃ p, IsPress ts.length p ∧ okP ts d k p = true)
def spLampsB (K : PySem.W.Frag) (a : Ad) : Sp := fun vs H Q _ => ∃ (h : Addr) (d k L : Nat) (ts : List Nat) (dx l : Addr), vs = [.ref h, .int (d : Int), .int (k : Int)] ∧ HouseAt K a H h L ts dx l ∧ k < 2 ^ L ∧ ∀ v H2, Ex H H2 → lamP ts d k v → Q v H2
def spCheckL (K : PySem.W.Frag) (a : Ad) : Sp := fun vs H Q _ => ∃ (h p : Addr) (ns : List Nat) (L : Nat) (ts : List Nat) (dx l : Addr), vs = [.ref h, .ref p] ∧ HouseAt K a H h L ts dx l ∧ SqL K H p (nats ns) ∧ (∀ n ∈ ns, n < 2 ^ L) ∧ RetV .non H Q
/-- new lists in a new list -/
def NewLs (xs : List (List Nat)) : RP := fun v fr H2 => ∃ p qs, v = .ref p ∧ fr p ∧ (∀ q ∈ qs, fr q.1) ∧ LsAt H2 p qs ∧ qs.map (·.2) = xs
def spAllPresses (K : PySem.W.Frag) (a : Ad) : Sp := fun vs H Q _ => ∃ (h : Addr) (s d k L : Nat) (ts : List Nat) (dx l : Addr), vs = [.ref h, .int (s : Int), .int (d : Int), .int (k : Int)] ∧ HouseAt K a H h L ts dx l ∧ s < 2 ^ L ∧ d < 2 ^ L ∧ k < 2 ^ L ∧ RetP (NewLs (due ts (s ^^^ d) k)) H Q
def spTelling (K : PySem.W.Frag) (a : Ad) : Sp := fun vs H Q _ => ∃ (h : Addr) (s d k L : Nat) (ts : List Nat) (dx l : Addr), vs = [.ref h, .int (s : Int), .int (d : Int), .int (k : Int)] ∧ HouseAt K a H h L ts dx l ∧ s < 2 ^ L ∧ d < 2 ^ L ∧ k < 2 ^ L ∧
  RetP (fun v fr H2 => (∃ x q p, v = .ref x ∧ fr x ∧ fr q ∧ x ≠ q ∧ PressAt a H2 x q ∧ H2 q = some (.lst (nats p)) ∧ p ∈ due ts (s ^^^ d) k ∧ ∀ r ∈ due ts (s ^^^ d) k, p.length ≤ r.length) ∨
    (∃ x n, v = .ref x ∧ fr x ∧ EvenAt a H2 x n ∧ n &&& k = n ∧ par (n &&& (s ^^^ d)) = true ∧ ∀ t ∈ ts, par (n &&& t) = false)) H Q
section
variable {K : PySem.W.Frag} {σ : L2.St} {H H' : Hp} {te ta tb tc : TE} {P P' : RP}
theorem evp_calL2 {sp : Sp} {E : XK} {xs : List V} {y : V} (ha : EvL ta σ H xs) (hb : Ev tb σ H y) (hs : ∀ p H1, Ex H H1 → H1 p = some (.lst xs) → ∀ Q : VK, RetP P H1 Q → sp [.ref p, y] H1 Q E) : EvP (tCall sp [] E (tCons ta (tCons tb tNil))) σ H P := fun H1 e Q q =>
  ha H1 e _ fun p H2 n e2 l2 => hb H2 (e.trans e2) _ fun H3 e3 => hs p H3 ((e.trans e2).trans e3) (e3 _ _ l2) Q (q.ex (e2.trans e3))
theorem evp_cal2L {sp : Sp} {E : XK} {xs : List V} {x : V} (ha : Ev ta σ H x) (hb : EvL tb σ H xs) (hs : ∀ p H1, Ex H H1 → H1 p = some (.lst xs) → ∀ Q : VK, RetP P H1 Q → sp [x, .ref p] H1 Q E) : EvP (tCall sp [] E (tCons ta (tCons tb tNil))) σ H P := fun H1 e Q q =>
  ha H1 e _ fun H2 e2 => hb H2 (e.trans e2) _ fun p H3 n e3 l3 => hs p H3 ((e.trans e2).trans e3) l3 Q (q.ex (e2.trans e3))
theorem retL_p {xs : List V} {Q : VK} (q : RetP (NewL xs) H Q) : RetL xs H Q := fun p H2 n e l => q (.ref p) (fun b => b = p) H2 e (fun b hb => by rw [hb]; exact n) ⟨p, rfl, rfl, l⟩
theorem retV_p {v : V} {Q : VK} (q : RetP (IsV v) H Q) : RetV v H Q := fun H2 e => q v (fun _ => False) H2 e (fun _ f => f.elim) rfl
/-- a comprehension over a new list -/
theorem el_bind {xs ys : List V} {tt : TT} {vs : List Nat} {g : TG} (h : EvL ta σ H xs) (k : ∀ p H1, H p = none → Ex H H1 → H1 p = some (.lst xs) → EvL (tLc (iList K (fun _ H Q => Q (.ref p) H)) g tt te vs) σ H1 ys) : EvL (tLc (iList K ta) g tt te vs) σ H ys := fun H1 e Q q =>
  h H1 e _ fun p H2 n e2 l => k p H2 (fresh_back e n) (e.trans e2) l H2 (Ex.refl H2) Q fun p' H3 n' e3 l' => q p' H3 (fresh_back e2 n') (e2.trans e3) l'
theorem ev_it {p : Addr} : Ev (fun _ H Q => Q (.ref p) H) σ H (.ref p) := fun H1 _ _ q => q H1 (Ex.refl _)
theorem evp_bindM {C : Addr} {sp : Sp} {E : XK} (h : EvP te σ H P) (k : ∀ v fr H1, Ex H H1 → (∀ a, fr a → H a = none) → P v fr H1 → EvP (tMake C sp [] E (tCons (fun _ H Q => Q v H) tNil)) σ H1 P') : EvP (tMake C sp [] E (tCons te tNil)) σ H P' := fun H1 e Q q =>
  h H1 e _ fun v fr H2 e2 f p => k v fr H2 (e.trans e2) (fun b hb => fresh_back e (f b hb)) p H2 (Ex.refl _) Q (q.ex e2)
theorem ea_it {v : V} : EvA (tCons (fun _ H Q => Q v H) tNil) σ H [v] := fun H1 _ _ q => q H1 (Ex.refl _)
/-- the least by length -/
theorem evp_minLen {xs : List (List Nat)} (h : EvP te σ H (NewLs xs)) (hne : xs ≠ []) : EvP (tMinLen K te) σ H (fun v fr H2 => ∃ q : Lrow, v = .ref q.1 ∧ H2 q.1 = some (.lst (nats q.2)) ∧ q.2 ∈ xs ∧ ∀ r ∈ xs, q.2.length ≤ r.length) := fun H1 e Q q =>
  h H1 e _ fun v fr H2 e2 f p => by
    obtain ⟨l, qs, rfl, fl, fq, hL, rfl⟩ := p
    refine ⟨l, qs.map lcast, rfl, ?_, fun r hr => ?_, ?_, fun r hr hm => ?_⟩
    · rw [List.map_map]
      exact sq_of hL.lst
    · obtain ⟨x, hx, rfl⟩ := List.mem_map.mp hr
      have := hL.row x hx
      rw [← zints_nint] at this
      exact sq_of this
    · intro z
      apply hne
      rw [List.map_eq_nil_iff] at z
      rw [z]
      rfl
    · obtain ⟨x, hx, rfl⟩ := List.mem_map.mp hr
      refine q (.ref x.1) (fun _ => False) H2 e2 (fun _ z => z.elim) ⟨x, rfl, hL.row x hx, List.mem_map.mpr ⟨x, hx, rfl⟩, fun r hr => ?_⟩
      obtain ⟨y, hy, rfl⟩ := List.mem_map.mp hr
      have := hm (lcast y) (List.mem_map.mpr ⟨y, hy, rfl⟩)
      unfold lcast nint at this
      rw [List.length_map, List.length_map] at this
      exact this
/-- sorted(..) of lists -/
theorem evp_sortedL {l : Addr} {qs : List Lrow} (ha : Ev te σ H (.ref l)) (hL : LsAt H l qs) (G : Hp) (hG : ∀ H1, Ex H H1 → Ex G H1) (hf : ∀ q ∈ qs, G q.1 = none) :
    ∀ H1, Ex H H1 → ∀ Q : VK, RetP (NewLs ((qs.map (·.2)).mergeSort leP)) G Q → tCB (rSortedRows K) (tCons te tNil) σ H1 Q := fun H1 e Q q =>
  ha H1 e _ fun H2 e2 => by
    have hL2 := (hL.ex e).ex e2
    refine ⟨l, qs.map lcast, rfl, ?_, fun r hr => ?_, fun p hp => ?_⟩
    · rw [List.map_map]
      exact sq_of hL2.lst
    · obtain ⟨x, hx, rfl⟩ := List.mem_map.mp hr
      have := hL2.row x hx
      rw [← zints_nint] at this
      exact sq_of this
    · rw [lsort_cast, List.map_map]
      have e3 := Ex.new (o := .lst ((qs.mergeSort leQ).map (rowV ∘ lcast))) hp
      have eG := hG H2 (e.trans e2)
      have pm := List.mergeSort_perm qs leQ
      refine q (.ref p) (fun b => b = p ∨ ∃ x ∈ qs, b = x.1) _ (eG.trans e3) (fun b hb => ?_) ⟨p, qs.mergeSort leQ, rfl, .inl rfl, fun x hx => .inr ⟨x, pm.subset hx, rfl⟩, ⟨upd_same, fun x hx => e3 _ _ (hL2.row x (pm.subset hx))⟩, lsort_rows qs⟩
      rcases hb with rfl | ⟨x, hx, rfl⟩
      · exact fresh_back eG hp
      · exact hf x hx
theorem evp_bindT {g : TE} (h : ∀ H1, Ex H H1 → ∀ Q : VK, RetP P H1 Q → g σ H1 Q) : EvP g σ H P := fun H1 e Q q => h H1 e Q q
end
section
variable {P : Program} {w : World} {K : PySem.W.Frag} {mg : Str → Option Value} {base : Heap} {a : Ad}
end
end Sw

/-! What every law uses. -/
namespace Sw
open PySem PySem.Spec PyProof.Rows L2 Evl
def spLaw (K : PySem.W.Frag) : Sp := fun vs H Q _ => ∃ (s : Addr) (ns : List Int), vs = [.ref s] ∧ SqL K H s (ns.map V.int) ∧ ns.length ≤ 63 ∧ (∀ z ∈ ns, Builtin.Int.intBits z ≤ 1048576) ∧ ∀ H', Q (.bl true) H'
section
variable {P : Program} {w : World} {K : PySem.W.Frag} {mg : Str → Option Value} {base : Heap} {a : Ad}
theorem evp_told {σ : L2.St} {H : Hp} {s : Addr} {ns : List Int} {k : Nat} {E : XK} {ta : TA} (h : EvA ta σ H [.ref s, .int (k : Int)]) (hs : SqL K H s (ns.map V.int)) (hb : ∀ z ∈ ns, Builtin.Int.intBits z ≤ 1048576) :
    EvP (tCall (spTold K) [] E ta) σ H (fun v fr H2 => ∃ p L ts l, v = .ref p ∧ fr p ∧ fr l ∧ ToldAt K H2 p L ts l) := evp_cal h fun H1 e Q q => ⟨_, _, _, rfl, ex_l e hs, hb, q⟩
theorem ev_told0 {σ : L2.St} {H : Hp} {te : TE} {p l : Addr} {L : Nat} {ts : List Nat} (ht : ToldAt K H p L ts l) (h : Ev te σ H (.ref p)) : Ev (tOp (rIxT K) te (tC (.int 0))) σ H (.int (L : Int)) := ev_op h ev_c (rv_ixT ht.tup rfl)
theorem ev_told1 {σ : L2.St} {H : Hp} {te : TE} {p l : Addr} {L : Nat} {ts : List Nat} (ht : ToldAt K H p L ts l) (h : Ev te σ H (.ref p)) : Ev (tOp (rIxT K) te (tC (.int 1))) σ H (.ref l) := ev_op h ev_c (rv_ixT ht.tup rfl)
theorem el_switches {σ : L2.St} {H : Hp} {te : TE} {E : XK} {h dx l : Addr} {L : Nat} {ts : List Nat} (hh : HouseAt K a H h L ts dx l) (he : Ev te σ H (.ref h)) : EvL (tMeth a.House "switches" (spSwitches K a) [] E te tNil) σ H (nats ts) :=
  el_meth he hh.ins (hF_no _ _ (by decide +kernel) (by decide +kernel)) ea_nil fun H1 e Q q => ⟨_, _, _, _, _, rfl, hh.ex e, q⟩
theorem ev_pressed {σ : L2.St} {H : Hp} {E : XK} {ta : TA} {h dx l p : Addr} {n L : Nat} {ts ps : List Nat} (hh : HouseAt K a H h L ts dx l) (ha : EvA ta σ H [.ref h, .int (n : Int), .ref p]) (hn : n < 2 ^ L) (hp : Rd H p (.lst (nats ps))) (hz : ps.length ≤ 1000) (hP : IsPress ts.length ps) :
    Ev (tCall (spPressed K a) [] E ta) σ H (.int ((n ^^^ turned ts ps : Nat) : Int)) := ev_cal ha fun H1 e Q q => ⟨_, _, _, _, _, _, _, _, rfl, hh.ex e, hn, ex_rd e hp, hz, hP, q⟩
theorem ev_lturned {σ : L2.St} {H : Hp} {E : XK} {ta : TA} {t l p : Addr} {L : Nat} {ts ps : List Nat} (ht : ToldAt K H t L ts l) (ha : EvA ta σ H [.ref t, .ref p]) (hp : SqL K H p (nats ps)) (hi : ∀ i ∈ ps, i < ts.length) :
    Ev (tCall (spLTurned K) [] E ta) σ H (.int (turned ts ps : Int)) := ev_cal ha fun H1 e Q q => ⟨_, _, _, _, _, _, rfl, ht.ex e, ex_l e hp, hi, q⟩
theorem press_filter (m : Nat) (f : Nat → Bool) : IsPress m ((List.range m).filter f) := by
  refine ⟨List.Pairwise.filter _ List.pairwise_lt_range, fun i hi => ?_⟩
  exact List.mem_range.mp (List.mem_filter.mp hi).1
end
end Sw

/-! Presses by the law; comprehensions that make new lists; lists of lists compared. -/
namespace Sw
open PySem PySem.Spec PyProof.Rows L2 Evl
section
variable {K : PySem.W.Frag} {σ : L2.St} {H H' : Hp} {te ta tb tc : TE} {P P' : RP}
/-- new lists by a list's items -/
theorem evp_lcNew {b : Addr} {xs : List V} {tl : TE} {j : Nat} {vs : List Nat} (out : Nat → List Nat) (h : Ev tl σ H (.ref b)) (hx : SqL K H b xs) (hz : xs.length ≤ 40000) (hw : ∀ x, wipe ((wipe σ vs).set j (some x)) vs = wipe σ vs)
    (he : ∀ i x, xs[i]? = some x → ∀ H1, Ex H H1 → EvL te ((wipe σ vs).set j (some x)) H1 (nats (out i))) : EvP (tLc (iList K tl) (gName j) tYes te vs) σ H (NewLs ((List.range xs.length).map out)) := fun H0 e Q q => h H0 e _ fun H1 e1 => ⟨b, rfl, ⟨xs, ex_l (e.trans e1) hx⟩, fun Dl hD =>
  lc_list (xs := xs) (fun i H' => H1 Dl = none ∧ Ex H1 H' ∧ ∃ qs : List Lrow, H' Dl = some (.lst (qs.map lV)) ∧ (∀ x ∈ qs, H1 x.1 = none ∧ x.1 ≠ Dl ∧ H' x.1 = some (.lst (nats x.2))) ∧ qs.map (·.2) = (List.range i).map out ∧ i ≤ xs.length)
    ⟨hD, Ex.new hD, [], upd_same, (fun _ h => nomatch h), rfl, Nat.zero_le _⟩ (fun i H' _ p => ex_l ((e.trans e1).trans p.2.1) hx)
    (fun i x H' hi p => ⟨hw x, by
      obtain ⟨p1, p2, qs, p3, p4, p5, p6⟩ := p
      have hlt := (List.getElem?_eq_some_iff.mp hi).1
      show te _ H' _
      refine he i x hi H' ((e.trans e1).trans p2) H' (Ex.refl _) _ fun y H4 ny e4 hy => ⟨qs.map lV, e4 _ _ p3, sz_lt ?_, p1, Ex.mut (p2.trans e4) p1, qs ++ [(y, out i)], ?_, fun x hx => ?_, ?_, by omega⟩
      · have := congrArg List.length p5
        rw [List.length_map, List.length_map, List.length_range] at this
        rw [List.length_map]
        omega
      · rw [upd_same, List.map_append]
        rfl
      · rcases List.mem_append.mp hx with hx | hx
        · obtain ⟨a1, a2, a3⟩ := p4 x hx
          exact ⟨a1, a2, by rw [upd_ne a2]; exact e4 _ _ a3⟩
        · rw [List.mem_singleton.mp hx]
          have ne : y ≠ Dl := fun z => by rw [z, p3] at ny; cases ny
          exact ⟨fresh_back p2 ny, ne, by rw [upd_ne ne]; exact hy⟩
      · rw [List.map_append, p5, List.range_succ, List.map_append]
        rfl⟩)
    (fun H' p => by
      obtain ⟨p1, p2, qs, p3, p4, p5, p6⟩ := p
      refine q (.ref Dl) (fun b => b = Dl ∨ ∃ x ∈ qs, b = x.1) H' (e1.trans p2) (fun b hb => ?_) ⟨Dl, qs, rfl, .inl rfl, fun x hx => .inr ⟨x, hx, rfl⟩, ⟨p3, fun x hx => (p4 x hx).2.2⟩, p5⟩
      rcases hb with rfl | ⟨x, hx, rfl⟩
      · exact fresh_back e1 p1
      · exact fresh_back e1 (p4 x hx).1)⟩
/-- lists and new ones -/
theorem evp_catLs {l : Addr} {qs : List Lrow} {ys : List (List Nat)} (ha : Ev ta σ H (.ref l)) (hL : LsAt H l qs) (hb : EvP tb σ H (NewLs ys)) (hz : qs.length + ys.length ≤ 100000) :
    EvP (tOp rCat ta tb) σ H (fun v fr H2 => ∃ p qs', v = .ref p ∧ fr p ∧ LsAt H2 p (qs ++ qs') ∧ (∀ q ∈ qs', fr q.1) ∧ qs'.map (·.2) = ys) := fun H1 e Q q =>
  ha H1 e _ fun H2 e2 => hb H2 (e.trans e2) _ fun v fr H3 e3 f p => by
    obtain ⟨b, qs', rfl, fb, fq, hb', rfl⟩ := p
    have e03 := (e.trans e2).trans e3
    refine ⟨l, b, qs.map lV, qs'.map lV, rfl, rfl, e03 _ _ hL.lst, hb'.lst, sz_of (by rw [List.length_map, List.length_map]; rw [List.length_map] at hz; exact hz), fun p hp => ?_⟩
    have e4 := Ex.new (o := .lst (qs.map lV ++ qs'.map lV)) hp
    refine q (.ref p) (fun b => b = p ∨ ∃ x ∈ qs', b = x.1) _ ((e2.trans e3).trans e4) (fun b hb => ?_) ⟨p, qs', rfl, .inl rfl, ⟨?_, fun x hx => ?_⟩, fun x hx => .inr ⟨x, hx, rfl⟩, rfl⟩
    · rcases hb with rfl | ⟨x, hx, rfl⟩
      · exact fresh_back (e2.trans e3) hp
      · exact fresh_back e2 (f _ (fq x hx))
    · rw [upd_same, List.map_append]
    · rcases List.mem_append.mp hx with hx | hx
      · exact e4 _ _ (e03 _ _ (hL.row x hx))
      · exact e4 _ _ (hb'.row x hx)
/-- [[]] -/
theorem evp_nilnil : EvP (tLst (tCons (tLst tNil) tNil)) σ H (NewLs [[]]) := fun H1 e Q q =>
  ⟨by show 0 ≤ sizeLine; decide, fun b hb => ⟨by show 1 ≤ sizeLine; decide, fun p hp => by
    have e1 := Ex.new (o := .lst []) hb
    have e2 := Ex.new (o := .lst [.ref b]) hp
    refine q (.ref p) (fun x => x = p ∨ x = b) _ (e1.trans e2) (fun x hx => ?_) ⟨p, [(b, [])], rfl, .inl rfl, fun x hx => .inr (by rw [List.mem_singleton.mp hx]), ⟨upd_same, fun x hx => ?_⟩, rfl⟩
    · rcases hx with rfl | rfl
      · exact fresh_back e1 hp
      · exact hb
    · rw [List.mem_singleton.mp hx]
      exact e2 _ _ upd_same⟩⟩
theorem dp_Ls {p : Addr} {qs : List Lrow} (h : LsAt H p qs) : Dp K H (.ref p) (dNN (qs.map (·.2))) := by
  refine .lst (sq_of h.lst) ?_
  have hr := h.row
  clear h
  induction qs with
  | nil => exact .nil
  | cons q qs ih => exact .cons (dp_nats (sq_of (hr q List.mem_cons_self))) (ih fun x hx => hr x (List.mem_cons_of_mem _ hx))
theorem rv_neLs {p q : Addr} {xs ys : List Lrow} (hp : LsAt H p xs) (hq : LsAt H q ys) : RV (rNeD K) (.ref p) (.ref q) H (.bl (!decide (xs.map (·.2) = ys.map (·.2)))) := by
  rw [← eqv_dNN]
  exact rv_neD (fun H1 e => dp_Ls (hp.ex e)) (fun H1 e => dp_Ls (hq.ex e)) (shaped_dNN _) (shaped_dNN _)
theorem ev_neNil {p : Addr} {xs : List Lrow} (ha : Ev ta σ H (.ref p)) (hp : LsAt H p xs) : Ev (tOp (rNeD K) ta (tLst tNil)) σ H (.bl (!decide (xs.map (·.2) = []))) :=
  ev_opL ha (el_lst ea_nil (by show 0 ≤ 100000; decide)) fun q H1 hq e => rv_neLs (ys := []) (hp.ex e) ⟨hq, fun _ h => nomatch h⟩
theorem ev_eqNil {p : Addr} {xs : List Lrow} (ha : Ev ta σ H (.ref p)) (hp : LsAt H p xs) : Ev (tOp (rEqD K) ta (tLst tNil)) σ H (.bl (decide (xs.map (·.2) = []))) :=
  ev_opL ha (el_lst ea_nil (by show 0 ≤ 100000; decide)) fun q H1 hq e => by
    have h2 : LsAt H1 q [] := ⟨hq, fun _ h => nomatch h⟩
    rw [show decide (xs.map (·.2) = []) = PyData.eqv (dNN (xs.map (·.2))) (dNN (([] : List Lrow).map (·.2))) from (eqv_dNN _ _).symm]
    exact rv_eqD (fun H2 e2 => dp_Ls ((hp.ex e).ex e2)) (fun H2 e2 => dp_Ls (h2.ex e2)) (shaped_dNN _) (shaped_dNN _)
theorem rv_eqB {x y : Bool} : RV rEq (.bl x) (.bl y) H (.bl (decide (x = y))) := fun H1 _ _ q => ⟨rfl, by
  have e : decide (V.bl x = V.bl y) = decide (x = y) := by rw [dec_bl, Bool.beq_eq_decide_eq]
  rw [e]
  exact q H1 (Ex.refl H1)⟩
theorem rv_neBB {x y : Bool} : RV rNe (.bl x) (.bl y) H (.bl (!decide (x = y))) := fun H1 _ _ q => ⟨rfl, by
  have e : decide (V.bl x = V.bl y) = decide (x = y) := by rw [dec_bl, Bool.beq_eq_decide_eq]
  rw [e]
  exact q H1 (Ex.refl H1)⟩
/-- a comprehension over rows: those that pass, what each gives -/
theorem el_filterLs {b : Addr} {qs : List Lrow} {tl : TE} {j : Nat} {vs : List Nat} {tt : TT} (f : List Nat → Bool) (g : Lrow → V) (h : Ev tl σ H (.ref b)) (hL : LsAt H b qs) (hz : qs.length ≤ 40000) (hw : ∀ x, wipe ((wipe σ vs).set j (some x)) vs = wipe σ vs)
    (ht : ∀ q ∈ qs, ∀ H1, Ex H H1 → EvT tt ((wipe σ vs).set j (some (.ref q.1))) H1 (f q.2)) (he : ∀ q ∈ qs, f q.2 = true → ∀ H1, Ex H H1 → Ev te ((wipe σ vs).set j (some (.ref q.1))) H1 (g q)) : EvL (tLc (iList K tl) (gName j) tt te vs) σ H ((qs.filter fun q => f q.2).map g) := by
  have q := el_lcL (K := K) (te := te) (t := tt) (fun i => f (qs.getD i (0, [])).2) (fun i => g (qs.getD i (0, []))) h (sq_of hL.lst) (by rw [List.length_map]; exact hz) hw (fun i x H1 e hi => ?_) (fun i x H1 e hi hf => ?_)
  · rw [List.length_map] at q
    have e : given qs.length (fun i => f (qs.getD i (0, [])).2) (fun i => g (qs.getD i (0, []))) = (qs.filter fun q => f q.2).map g := by
      have e : (List.range qs.length).map (fun i => qs.getD i (0, [])) = qs := by
        apply List.ext_getElem
        · rw [List.length_map, List.length_range]
        · intro i h1 h2
          rw [List.getElem_map, List.getElem_range, List.getD_eq_getElem?_getD, List.getElem?_eq_getElem h2]
          rfl
      unfold given
      conv => rhs; rw [← e]
      rw [List.filter_map, List.map_map]
      rfl
    rw [e] at q
    exact q
  all_goals
    rw [List.getElem?_map] at hi
    cases hq : qs[i]? with
    | none => rw [hq] at hi; cases hi
    | some y =>
      rw [hq] at hi
      obtain rfl : lV y = x := Option.some.inj hi
      have ey : qs.getD i (0, []) = y := by rw [List.getD_eq_getElem?_getD, hq]; rfl
      first
        | (rw [ey] at hf; show Ev te _ H1 (g (qs.getD i (0, []))); rw [ey]; exact he y (List.mem_of_getElem? hq) hf H1 e)
        | (rw [ey]; exact ht y (List.mem_of_getElem? hq) H1 e)
theorem el_mapLs {b : Addr} {qs : List Lrow} {tl : TE} {j : Nat} {vs : List Nat} (g : Lrow → V) (h : Ev tl σ H (.ref b)) (hL : LsAt H b qs) (hz : qs.length ≤ 40000) (hw : ∀ x, wipe ((wipe σ vs).set j (some x)) vs = wipe σ vs)
    (he : ∀ q ∈ qs, ∀ H1, Ex H H1 → Ev te ((wipe σ vs).set j (some (.ref q.1))) H1 (g q)) : EvL (tLc (iList K tl) (gName j) tYes te vs) σ H (qs.map g) := by
  have q := el_filterLs (K := K) (te := te) (fun _ => true) g h hL hz hw (fun q _ H1 _ => et_yes) (fun q hm _ H1 e => he q hm H1 e)
  rw [List.filter_eq_self.mpr (fun _ _ => rfl)] at q
  exact q
end
def spLPresses (K : PySem.W.Frag) : Sp := fun vs H Q _ => ∃ (t l : Addr) (L : Nat) (ts : List Nat), vs = [.ref t] ∧ ToldAt K H t L ts l ∧ RetP (NewLs (presses ts.length)) H Q
section
variable {P : Program} {w : World} {K : PySem.W.Frag} {mg : Str → Option Value} {base : Heap} {a : Ad}
end
end Sw

/-! Texts: "." * n, and what the texts' rules give. -/
namespace Sw
open PySem PySem.Spec PyProof.Rows L2 Evl SX
def rRepS : R2 := fun x y H Q => ∃ (z : List Nat) (n : Nat), x = .str (S z) ∧ y = .int (n : Int) ∧ 1 ≤ n ∧ n ≤ 1000 ∧ z.length ≤ 1000 ∧ Q (.str (S (List.replicate n z).flatten)) H
theorem fold_app (a : Array Nat) : ∀ (n : Nat) (acc : Array Nat), (List.replicate n a).foldl (· ++ ·) acc = (acc.toList ++ (List.replicate n a.toList).flatten).toArray
  | 0, acc => by simp
  | n + 1, acc => by
    rw [List.replicate_succ, List.foldl_cons, fold_app a n (acc ++ a), List.replicate_succ, List.flatten_cons, Array.toList_append, List.append_assoc]
section
variable {X : Cx}
theorem op_repS : OpR X (binaryOp .Mult) rRepS := by
  intro pins s σ H x y v u Q I rx ry h
  obtain ⟨z, n, rfl, rfl, h1, h2, h3, q⟩ := h
  obtain ⟨t, rfl⟩ := rx
  obtain ⟨t', rfl⟩ := ry
  have hlen : (S z).length = z.length := by simp [Str.length]
  have hm : z.length * n ≤ 1000000 := Nat.le_trans (Nat.mul_le_mul h3 h2) (by decide)
  have e2 : (2 : Int) ^ 63 = 9223372036854775808 := by decide
  refine PySem.P.mul_str ?_ (fun _ _ => ?_) (fun _ _ => ?_) ?_
  · rw [e2, decide_eq_false (by omega), decide_eq_false (by omega)]
    rfl
  · rw [hlen, e2]
    have h4 : (1000 : Int) ≤ (9223372036854775808 - 1) / (n : Int) := by
      rw [Int.le_ediv_iff_mul_le (by omega)]
      omega
    omega
  · rw [hlen, Int.toNat_natCast]
    show decide (z.length * n > 2 ^ 24) = false
    exact decide_eq_false (by omega)
  · rw [if_neg (by omega)]
    have hcs : (⟨(List.replicate ((n : Int)).toNat (S z).cps).foldl (· ++ ·) #[]⟩ : Str) = S (List.replicate n z).flatten := by
      rw [Int.toNat_natCast, fold_app]
      simp
    have hl : (List.replicate n z).flatten.length = n * z.length := by
      rw [List.length_flatten, List.map_replicate, List.sum_replicate_nat]
    refine post_val_or_made (fun _ => ?_) fun t2 k => ⟨.str (S (List.replicate n z).flatten), H, I.tok k, ⟨t2, ?_⟩, q⟩
    · rw [hcs, sizeLine_eq]
      show (S (List.replicate n z).flatten).cps.size ≤ _
      rw [List.size_toArray, hl, Nat.mul_comm]
      omega
    · rw [hcs]
      congr 1
      split
      · rename_i hc
        rw [Bool.or_eq_true, beq_iff_eq, beq_iff_eq, hlen] at hc
        rcases hc with hc | hc
        · have : n = 1 := by omega
          subst this
          simp
        · have hz := List.length_eq_zero_iff.mp hc
          subst hz
          simp
      · rfl
end
end Sw

/-! Houses written. -/
namespace Sw
open PySem PySem.Spec PyProof.Rows L2 Evl SX
def dots (L : Nat) : List Nat := List.replicate L 46
def rowL (L t : Nat) : List Nat := (List.range L).map fun i => if t.testBit i then 35 else 46
def rowsL (L : Nat) (ts : List Nat) : List (List Nat) := dots L :: ts.map (rowL L)
def textL (L : Nat) (ts : List Nat) : List Nat := TL.joinL [10] (rowsL L ts)
def txs (ys : List (List Nat)) : List V := ys.map fun l => V.str (S l)
theorem lit_dot : (Str.ofString "." : Str) = S [46] := by decide +kernel
theorem lit_hash : (Str.ofString "#" : Str) = S [35] := by decide +kernel
theorem lit_nl : (Str.ofString "\n" : Str) = S [10] := by decide +kernel
theorem lit_nil : (Str.ofString "" : Str) = S [] := by decide +kernel
theorem dots_len (L : Nat) : (dots L).length = L := by unfold dots; rw [List.length_replicate]
theorem rowL_len (L t : Nat) : (rowL L t).length = L := by unfold rowL; rw [List.length_map, List.length_range]
theorem join_one : ∀ xs : List Nat, TL.joinL [] (xs.map fun c => [c]) = xs
  | [] => rfl
  | [_] => rfl
  | x :: y :: r => by
    show [x] ++ ([] ++ TL.joinL [] ((y :: r).map fun c => [c])) = x :: y :: r
    rw [join_one (y :: r)]
    rfl
theorem join_len (s : List Nat) : ∀ ys : List (List Nat), (TL.joinL s ys).length ≤ (ys.map List.length).sum + ys.length * s.length
  | [] => Nat.zero_le _
  | [y] => by
    show y.length ≤ _
    rw [List.map_singleton, List.sum_singleton]
    omega
  | x :: y :: r => by
    have := join_len s (y :: r)
    show (x ++ (s ++ TL.joinL s (y :: r))).length ≤ _
    rw [List.length_append, List.length_append, List.map_cons, List.sum_cons, List.length_cons, Nat.succ_mul]
    omega
def spWritten (K : PySem.W.Frag) (a : Ad) : Sp := fun vs H Q _ => ∃ (h : Addr) (L : Nat) (ts : List Nat) (dx l : Addr), vs = [.ref h] ∧ HouseAt K a H h L ts dx l ∧ RetV (.str (S (textL L ts))) H Q
abbrev rJoin (K : PySem.W.Frag) : V → List V → Hp → VK → Prop := fun x xs H Q => ∃ a p, ∃ ys : List Str, x = .str a ∧ xs = [.ref p] ∧ (SqL K H p (ys.map V.str) ∨ SqT K H p (ys.map V.str)) ∧ (ys.map (·.length)).sum + ys.length * a.length ≤ 16777216 ∧ Q (.str (Txt.join a ys)) H
section
variable {K : PySem.W.Frag} {σ : L2.St} {H H' : Hp} {te ta tb tc : TE} {P P' : RP}
theorem ev_repS {z : List Nat} {n : Nat} (ha : Ev ta σ H (.str (S z))) (hb : Ev tb σ H (.int (n : Int))) (h1 : 1 ≤ n) (h2 : n ≤ 1000) (h3 : z.length ≤ 1000) : Ev (tOp rRepS ta tb) σ H (.str (S (List.replicate n z).flatten)) :=
  ev_op ha hb fun H1 e Q q => ⟨z, n, rfl, rfl, h1, h2, h3, q H1 (Ex.refl _)⟩
theorem ev_joinL {s : List Nat} {ys : List (List Nat)} (ho : Ev ta σ H (.str (S s))) (he : EvL te σ H (txs ys)) (hz : (ys.map List.length).sum + ys.length * s.length ≤ 16777216) : Ev (tM1 (rJoin K) ta te) σ H (.str (S (TL.joinL s ys))) := fun H1 e Q q =>
  ho H1 e _ fun H2 e2 => ⟨⟨_, rfl⟩, he H2 (e.trans e2) _ fun p H3 n e3 l => by
    refine ⟨S s, p, ys.map S, rfl, rfl, .inl (sq_of (by rw [List.map_map]; exact l)), ?_, ?_⟩
    · rw [List.map_map, List.length_map, S_len]
      have e0 : (ys.map ((fun x : Str => x.length) ∘ S)) = ys.map List.length := List.map_congr_left fun y _ => S_len y
      rw [e0]
      exact hz
    · rw [join_S]
      exact q H3 (e2.trans e3)⟩
theorem ev_joinR {s : List Nat} {ys : List (List Nat)} {b : Addr} (ho : Ev ta σ H (.str (S s))) (he : Ev te σ H (.ref b)) (hb : H b = some (.lst (txs ys))) (hz : (ys.map List.length).sum + ys.length * s.length ≤ 16777216) : Ev (tM1 (rJoin K) ta te) σ H (.str (S (TL.joinL s ys))) := fun H1 e Q q =>
  ho H1 e _ fun H2 e2 => ⟨⟨_, rfl⟩, he H2 (e.trans e2) _ fun H3 e3 => by
    refine ⟨S s, b, ys.map S, rfl, rfl, .inl (sq_of (by rw [List.map_map]; exact ((e.trans e2).trans e3) _ _ hb)), ?_, ?_⟩
    · rw [List.map_map, List.length_map, S_len]
      have e0 : (ys.map ((fun x : Str => x.length) ∘ S)) = ys.map List.length := List.map_congr_left fun y _ => S_len y
      rw [e0]
      exact hz
    · rw [join_S]
      exact q H3 (e2.trans e3)⟩
end
section
variable {P : Program} {w : World} {K : PySem.W.Frag} {mg : Str → Option Value} {base : Heap} {a : Ad}
theorem ok_written (T : Txt K mg a) : Cal P w K mg base CX0 2 "written" ["house"] (spWritten K a) := by
  obtain ⟨f, fd, F, hm⟩ := T.d_written
  refine ⟨f, fd, F.ok sc_written (fun vs H Q E h => by first | (obtain ⟨_, rfl, _⟩ := h; rfl) | (obtain ⟨_, _, rfl, _⟩ := h; rfl) | (obtain ⟨_, _, _, rfl, _⟩ := h; rfl) | (obtain ⟨_, _, _, _, rfl, _⟩ := h; rfl) | (obtain ⟨_, _, _, _, _, rfl, _⟩ := h; rfl) | (obtain ⟨_, _, _, _, _, _, rfl, _⟩ := h; rfl) | (obtain ⟨_, _, _, _, _, _, _, rfl, _⟩ := h; rfl) | (obtain ⟨_, _, _, _, _, _, _, _, rfl, _⟩ := h; rfl) | (obtain ⟨_, _, _, _, _, _, _, _, _, rfl, _⟩ := h; rfl) | (obtain ⟨_, _, _, _, _, _, _, _, _, _, rfl, _⟩ := h; rfl) | (obtain ⟨_, _, _, _, _, _, _, _, _, _, _, rfl, _⟩ := h; rfl) | (obtain ⟨_, _, _, _, _, _, _, _, _, _, _, _, rfl, _⟩ := h; rfl) | (obtain ⟨_, _, _, _, _, _, _, _, _, _, _, _, _, rfl, _⟩ := h; rfl) | (obtain ⟨_, _, _, _, _, _, _, _, _, _, _, _, _, _, rfl, _⟩ := h; rfl) | (obtain ⟨_, _, _, _, _, _, _, _, _, _, _, _, _, _, _, rfl, _⟩ := h; rfl) | (obtain ⟨_, _, _, _, _, _, _, _, _, _, _, _, _, _, _, _, rfl, _⟩ := h; rfl) | (obtain ⟨_, _, _, _, _, _, _, _, _, _, _, _, _, _, _, _, _, rfl, _⟩ := h; rfl) | (obtain ⟨_, _, _, _, _, _, _, _, _, _, _, _, _, _, _, _, _, _, rfl, _⟩ := h; rfl) | (obtain ⟨_, _, _, _, _, _, _, _, _, _, _, _, _, _, _, _, _, _, _, rfl, _⟩ := h; rfl) | (obtain ⟨_, _, _, _, _, _, _, _, _, _, _, _, _, _, _, _, _, _, _, _, rfl, _⟩ := h; rfl) | (obtain ⟨_, _, _, _, _, _, _, _, _, _, _, _, _, _, _, _, _, _, _, _, _, rfl, _⟩ := h; rfl) | (obtain ⟨_, _, _, _, _, _, _, _, _, _, _, _, _, _, _, _, _, _, _, _, _, _, rfl, _⟩ := h; rfl) | (obtain ⟨_, _, _, _, _, _, _, _, _, _, _, _, _, _, _, _, _, _, _, _, _, _, _, rfl, _⟩ := h; rfl)) (fun cdv A outer s H vs Q E hr h => ?_), hm, F.kp, F.binds (ps := ["house"]) fun _ _ _ _ _ _ us hl => match us, hl with | [_], _ => rfl⟩
  refine ⟨_, (pss_cons (pset 1 sc_written.nd (pe_lst (pa_cons (pe_op op_repS pe_str (pe_fldK K (pv 0))) pa_nil)))
    (pss_cons (ps_for PassesOwn.never rfl (pi_listK K (pe_calM0 (pv 0) T.cl_House (ok_House_switches (K := K) (a := a) T) (hr.mono (by decide)) pass0)) (pgn 2 sc_written.nd) (pss_one (ps_expr (pe_bm PySem.F.plainAttrs_list PySem.F.slot_list_append PySem.F.type_list_append mt_append (pv 1) (pa_cons (pe_join pe_str (pe_lc (own := [("lamp", 3)]) (g := gName 3) rfl sc_written.nd (pi_range1 (by rfl) T.n_range (pa_cons (pe_fldK K (pv 0)) pa_nil)) (blkOk_by (N := ["house", "rows", "one", "lamp"]) (sc := defScope s_written) (by decide +kernel)) (fun _ _ _ _ _ => (pgn 3 sc_written.nd)) (fun _ _ _ _ _ => pts_nil) (fun _ _ _ _ _ => (pe_ifExp (pt_cmpR op_eq (pe_op op_and (pe_op op_shr (pv 2) (pv 3)) pe_int) pe_int (nomark _)) pe_str pe_str)))) pa_nil)))))
    (pss_one (ps_ret (pe_join pe_str (pv 1)))))), ?_⟩
  obtain ⟨h, L, ts, dx, l, rfl, hh, kk⟩ := h
  obtain ⟨l1, l2, few, low⟩ := id hh.ok
  have e0 : (List.replicate L [46]).flatten = dots L := by
    unfold dots
    clear hh l1 l2 low kk
    induction L with
    | zero => rfl
    | succ n ih => rw [List.replicate_succ, List.flatten_cons, ih]; rfl
  have hdot : ∀ (σ : L2.St) (H : Hp), Ev (tC (.str ".")) σ H (.str (S [46])) := fun σ H => ev_to ev_c (congrArg V.str lit_dot)
  refine St.at ?_
  refine st_asgL (H := H) (xs := txs [dots L]) (el_lst (ea_cons (ev_to (ev_repS (hdot _ _) (ev_lamps T hh (ev_var rfl)) l1 (by omega) (by decide)) (by rw [e0])) ea_nil) (by show 1 ≤ 100000; decide)) fun b H1 nb e1 hb => ?_
  have hh1 := hh.ex e1
  refine st_bindFor (el_p (el_switches hh1 (ev_var rfl))) fun v fr H2 e2 p2 => ?_
  obtain ⟨q, rfl, fq, hq⟩ := p2
  have hqb : q ≠ b := fun z => by
    have h1 := e2 _ _ hb
    rw [← z, hq] at h1
    have h2 := HO.lst.inj (Option.some.inj h1)
    cases ts with
    | nil => cases h2
    | cons t ts => cases h2
  refine st_forLn (H := H2) ev_it (sq_of hq) (fun i σ' H' => Ex H H' ∧ H' q = some (.lst (nats ts)) ∧ H' b = some (.lst (txs (dots L :: (ts.take i).map (rowL L)))) ∧ ∃ v2, σ' = [some (.ref h), some (.ref b), v2, none]) (fun H3 e3 => ⟨e1.trans (e2.trans e3), e3 _ _ hq, e3 _ _ (e2 _ _ hb), none, rfl⟩) (fun i σ' H' p => sq_of p.2.1) ?_ ?_
  · rintro i x σ' H' hx ⟨e, hq', hb', v2, rfl⟩
    obtain ⟨t, ht, rfl⟩ := nats_at hx
    have hi : i < ts.length := (List.getElem?_eq_some_iff.mp ht).1
    have hh' := hh.ex e
    refine St.at ?_
    refine st_app1 hb' (ev_var rfl) (ev_to (ev_joinL (s := []) (ys := (rowL L t).map fun c => [c]) (ev_to ev_c (congrArg V.str lit_nil)) ?_ ?_) (by rw [join_one])) ?_ fun H3 e3 => ⟨(e.trans e3).mut nb, ?_, ?_, _, rfl⟩
    · have er : txs ((rowL L t).map fun c => [c]) = ((List.range L).filter fun _ => true).map fun i => V.str (S [if t.testBit i then 35 else 46]) := by
        rw [List.filter_eq_self.mpr (fun _ _ => rfl)]
        unfold txs rowL
        rw [List.map_map, List.map_map]
        rfl
      rw [er]
      refine el_rng (n := L) (fun _ => true) (fun i => .str (S [if t.testBit i then 35 else 46])) (ea_cons (ev_lamps T hh' (ev_var rfl)) ea_nil) (by omega) (fun x => rfl) (fun _ _ _ _ => et_yes) fun i hi _ H3 e3 => ?_
      refine ev_if (et_bit (ev_var rfl) (ev_var rfl)) (fun hc => ?_) fun hc => ?_
      · rw [hc, if_pos rfl]
        exact ev_to ev_c (congrArg V.str lit_hash)
      · rw [hc, if_neg (by decide)]
        exact hdot _ _
    · rw [List.length_map, rowL_len, List.map_map]
      have e3 : ((rowL L t).map (List.length ∘ fun c => [c])).sum = L := by
        have : (rowL L t).map (List.length ∘ fun c => [c]) = List.replicate (rowL L t).length 1 := by
          rw [List.eq_replicate_iff]
          refine ⟨by rw [List.length_map], fun x hx => ?_⟩
          obtain ⟨y, _, rfl⟩ := List.mem_map.mp hx
          rfl
        rw [this, List.sum_replicate_nat, rowL_len]
        omega
      rw [e3]
      show L + L * 0 ≤ _
      omega
    · unfold txs
      rw [List.length_map, List.length_cons, List.length_map, List.length_take]
      omega
    · rw [upd_ne hqb]
      exact e3 _ _ hq'
    · rw [upd_same, take_snoc ht]
      unfold txs
      rw [List.map_cons, List.map_cons, List.map_append, List.map_append]
      rfl
  · rintro σ' H' ⟨e, hq', hb', v2, rfl⟩
    rw [nats_len, List.take_of_length_le (Nat.le_refl _)] at hb'
    refine St.at (st_ret (ev_joinR (s := [10]) (ys := rowsL L ts) (ev_to ev_c (congrArg V.str lit_nl)) (ev_var rfl) hb' ?_) (RetV.ex kk e))
    have e2 : ((rowsL L ts).map List.length).sum = L * (ts.length + 1) := by
      have : (rowsL L ts).map List.length = List.replicate (ts.length + 1) L := by
        rw [List.eq_replicate_iff]
        refine ⟨by unfold rowsL; simp, fun x hx => ?_⟩
        obtain ⟨y, hy, rfl⟩ := List.mem_map.mp hx
        unfold rowsL at hy
        rcases List.mem_cons.mp hy with rfl | hy
        · exact dots_len L
        · obtain ⟨t, _, rfl⟩ := List.mem_map.mp hy
          exact rowL_len L t
      rw [this, List.sum_replicate_nat, Nat.mul_comm]
    rw [e2]
    have : (rowsL L ts).length = ts.length + 1 := by unfold rowsL; simp
    rw [this]
    have h3 : L * (ts.length + 1) ≤ 10 * 9 := Nat.mul_le_mul l2 (by omega)
    show L * (ts.length + 1) + (ts.length + 1) * 1 ≤ _
    omega
end
end Sw

/-! Readings of texts: split, strip, signs, indexing. -/
namespace Sw
open PySem PySem.Spec PyProof.Rows L2 Evl SX
theorem strip_dots : ∀ L, L < 11 → Txt.stripChars (S (dots L)) (S [46]) = S [] := by decide +kernel
theorem spl_text {L : Nat} {ts : List Nat} : TL.spl [10] 0 [] (textL L ts) = rowsL L ts := by
  refine SX.spl_join (by unfold rowsL; exact fun z => nomatch z) fun p hp => ?_
  unfold rowsL at hp
  rcases List.mem_cons.mp hp with rfl | hp
  · unfold dots
    intro z
    have := List.eq_of_mem_replicate z
    cases this
  · obtain ⟨t, _, rfl⟩ := List.mem_map.mp hp
    unfold rowL
    intro z
    obtain ⟨i, _, h⟩ := List.mem_map.mp z
    split at h <;> cases h
theorem rowL_at {L t i : Nat} (h : i < L) : (rowL L t)[i]? = some (if t.testBit i then 35 else 46) := by
  unfold rowL
  rw [List.getElem?_map, List.getElem?_range h]
  rfl
section
variable {K : PySem.W.Frag} {σ : L2.St} {H H' : Hp} {te ta tb tc : TE} {P P' : RP}
abbrev rSplit : V → List V → Hp → VK → Prop := fun x xs H Q => ∃ a b, x = .str a ∧ xs = [.str b] ∧ (b.length == 0) = false ∧ a.length + 2 ≤ sizeLine ∧ rNewStrs (Txt.split a b) H Q
theorem el_split {a b : List Nat} (ho : Ev ta σ H (.str (S a))) (he : Ev te σ H (.str (S b))) (hb : b ≠ []) (hk : b.all (· < 256) = true) (hz : a.length ≤ 100000) : EvL (tM1 rSplit ta te) σ H (txs (TL.spl b 0 [] a)) := fun H1 e Q q =>
  ho H1 e _ fun H2 e2 => ⟨⟨_, rfl⟩, he H2 (e.trans e2) _ fun H3 e3 => by
    refine ⟨S a, S b, rfl, rfl, ?_, ?_, fun p hp => ?_⟩
    · rw [S_len]
      cases b with
      | nil => exact absurd rfl hb
      | cons x xs => rfl
    · rw [S_len, sizeLine_eq]
      omega
    · rw [split_S hb hk, List.map_map]
      exact q p _ (fresh_back (e2.trans e3) hp) ((e2.trans e3).trans (Ex.new hp)) upd_same⟩
theorem rc_lenS {a : List Nat} (hz : a.length ≤ 100000) : RC (fun xs H Q => ∃ z, xs = [.str z] ∧ z.length ≤ sizeLine ∧ Q (.int z.length) H) [.str (S a)] H (.int (a.length : Int)) := fun H1 e _ q =>
  ⟨S a, rfl, by rw [S_len, sizeLine_eq]; omega, by rw [S_len]; exact q H1 (Ex.refl H1)⟩
theorem rv_ixS {a : List Nat} {i c : Nat} (hz : a.length ≤ 100000) (h : a[i]? = some c) : RV rIxS (.str (S a)) (.int (i : Int)) H (.str (S [c])) := fun H1 e _ q =>
  ⟨S a, (i : Int), c, rfl, rfl, by rw [S_len, sizeLine_eq]; omega, atI_nat (by simpa using h), q H1 (Ex.refl H1)⟩
theorem rv_eqS {a b : List Nat} : RV rEq (.str (S a)) (.str (S b)) H (.bl (decide (a = b))) := fun H1 _ _ q => ⟨rfl, by
  have e : decide (V.str (S a) = V.str (S b)) = decide (a = b) := decide_eq_decide.mpr ⟨fun h => S_inj (V.str.inj h), fun h => by rw [h]⟩
  rw [e]
  exact q H1 (Ex.refl H1)⟩
theorem rv_neS {a b : List Nat} : RV rNe (.str (S a)) (.str (S b)) H (.bl (!decide (a = b))) := fun H1 _ _ q => ⟨rfl, by
  have e : decide (V.str (S a) = V.str (S b)) = decide (a = b) := decide_eq_decide.mpr ⟨fun h => S_inj (V.str.inj h), fun h => by rw [h]⟩
  rw [e]
  exact q H1 (Ex.refl H1)⟩
/-- a comprehension over a text's signs -/
theorem el_signs {a : List Nat} {j : Nat} {vs : List Nat} (g : Nat → V) (h : Ev ta σ H (.str (S a))) (hz : a.length ≤ 40000) (hw : ∀ x, wipe ((wipe σ vs).set j (some x)) vs = wipe σ vs)
    (he : ∀ c ∈ a, ∀ H1, Ex H H1 → Ev te ((wipe σ vs).set j (some (.str (S [c])))) H1 (g c)) : EvL (tLc (iStr ta) (gName j) tYes te vs) σ H (a.map g) := by
  have eg : ((List.range a.length).filter fun _ => true).map (fun i => g (a.getD i 0)) = a.map g := by
    rw [List.filter_eq_self.mpr (fun _ _ => rfl)]
    apply List.ext_getElem
    · rw [List.length_map, List.length_map, List.length_range]
    · intro i h1 h2
      rw [List.length_map] at h2
      rw [List.getElem_map, List.getElem_map, List.getElem_range, List.getD_eq_getElem?_getD, List.getElem?_eq_getElem h2]
      rfl
  rw [← eg]
  intro H0 e Q q
  refine h H0 e _ fun H1 e1 => ⟨S a, rfl, fun Dl hD => ?_⟩
  have hsz : (S a).cps.size = a.length := by simp
  refine lc_it walk_str (Cw H1 (fun _ => true) (fun i => g (a.getD i 0)) Dl) ⟨hD, Ex.new hD, upd_same⟩ (fun _ _ _ _ => trivial) (fun i x Ha Hb hi p y => ?_) fun H' p => ?_
  · obtain ⟨rfl, c, hc, rfl⟩ := y
    have hc' : a[i]? = some c := by simpa using hc
    have ec : a.getD i 0 = c := by rw [List.getD_eq_getElem?_getD, hc']; rfl
    refine ⟨hw _, cw_turn p (by omega) et_yes fun _ => ?_⟩
    show Ev te _ H1 (g (a.getD i 0))
    rw [ec]
    exact he c (List.mem_of_getElem? hc') H1 (e.trans e1)
  · obtain ⟨p1, p2, p3⟩ := p
    rw [hsz] at p3
    exact q Dl H' (fresh_back e1 p1) (e1.trans p2) p3
end
end Sw

/-! Houses read: texts that write one. -/
namespace Sw
open PySem PySem.Spec PyProof.Rows L2 Evl SX
def spRead (K : PySem.W.Frag) (a : Ad) : Sp := fun vs H Q _ => ∃ (L : Nat) (ts : List Nat), vs = [.str (S (textL L ts))] ∧ HouseOk L ts ∧ RetP (fun v fr H2 => ∃ h dx l, v = .ref h ∧ fr h ∧ fr l ∧ HouseAt K a H2 h L ts dx l) H Q
theorem text_len {L : Nat} {ts : List Nat} (ok : HouseOk L ts) : (textL L ts).length ≤ 100 := by
  have h1 := join_len [10] (rowsL L ts)
  have h2 : (rowsL L ts).map List.length = List.replicate (ts.length + 1) L := by
    rw [List.eq_replicate_iff]
    refine ⟨by unfold rowsL; simp, fun x hx => ?_⟩
    obtain ⟨y, hy, rfl⟩ := List.mem_map.mp hx
    unfold rowsL at hy
    rcases List.mem_cons.mp hy with rfl | hy
    · exact dots_len L
    · obtain ⟨t, _, rfl⟩ := List.mem_map.mp hy
      exact rowL_len L t
  have h3 : (rowsL L ts).length = ts.length + 1 := by unfold rowsL; simp
  rw [h2, List.sum_replicate_nat, h3] at h1
  have h4 : (ts.length + 1) * L ≤ 9 * 10 := Nat.mul_le_mul (by have := ok.few; omega) ok.l2
  have h5 : (textL L ts).length ≤ (ts.length + 1) * L + (ts.length + 1) * 1 := h1
  have := ok.few
  omega
theorem txs_at {ys : List (List Nat)} {i : Nat} {v : V} (h : (txs ys)[i]? = some v) : ∃ y, ys[i]? = some y ∧ v = .str (S y) := by
  unfold txs at h
  rw [List.getElem?_map] at h
  cases e : ys[i]? with
  | none => rw [e] at h; cases h
  | some y =>
    rw [e] at h
    exact ⟨y, rfl, (Option.some.inj h).symm⟩
/-- the sum that a row tells -/
theorem row_sum {L t : Nat} (h : t < 2 ^ L) : (((List.range L).filter t.testBit).map fun i => ((2 ^ i : Nat) : Int)).sum = (t : Int) := by
  have e1 := sum_cast (((List.range L).filter t.testBit).map fun k => 2 ^ k)
  rw [List.map_map] at e1
  have e2 := sum_mask (rising_nodup (List.Pairwise.filter t.testBit (List.pairwise_lt_range (n := L))))
  rw [bits_eq h] at e1 e2 ⊢
  rw [e2, mask_bits] at e1
  exact e1
theorem lit_both : (Str.ofString ".#" : Str) = S [46, 35] := by decide +kernel
section
variable {K : PySem.W.Frag} {σ : L2.St} {H H' : Hp} {te ta tb tc : TE} {P P' : RP}
theorem st_bindForF {g : TG} {tu tz : TS} {D : Ends} (h : EvP te σ H P) (k : ∀ v fr H1, Ex H H1 → (∀ a, fr a → H a = none) → P v fr H1 → St (tSeq (tFor (iList K (fun _ H Q => Q v H)) g tu) tz) D σ H1) : St (tSeq (tFor (iList K te) g tu) tz) D σ H := fun H1 a => h H1 a _ fun v fr H2 e f p => (k v fr H2 (a.trans e) (fun b hb => fresh_back a (f b hb)) p).at
abbrev rStrip : V → List V → Hp → VK → Prop := fun x xs H Q => ∃ a b, x = .str a ∧ xs = [.str b] ∧ a.length ≤ sizeLine ∧ Q (.str (Txt.stripChars a b)) H
theorem ev_strip {a b : List Nat} (ho : Ev ta σ H (.str (S a))) (he : Ev tb σ H (.str (S b))) (hz : a.length ≤ 100000) : Ev (tBM K "str" rStrip ta (tCons tb tNil)) σ H (.str (Txt.stripChars (S a) (S b))) := fun H1 e Q q =>
  ho H1 e _ fun H2 e2 => ⟨rfl, he H2 (e.trans e2) _ fun H3 e3 => ⟨S a, S b, rfl, rfl, by rw [S_len, sizeLine_eq]; omega, q H3 (e2.trans e3)⟩⟩
theorem cut_dropN {xs : List V} {i : Nat} (h : i ≤ xs.length) : cutV xs (some (i : Int)) none = xs.drop i := by
  unfold cutV
  rw [HT.sIx_nat, HT.sIx_none, Nat.min_eq_left h]
  exact List.take_of_length_le (by rw [List.length_drop]; exact Nat.le_refl _)
end
section
variable {P : Program} {w : World} {K : PySem.W.Frag} {mg : Str → Option Value} {base : Heap} {a : Ad}
end
end Sw

/-! Texts that write a house, and those that don't. -/
namespace Sw
open PySem PySem.Spec PyProof.Rows L2 Evl SX
def rowsOf (z : List Nat) : List (List Nat) := TL.spl [10] 0 [] z
theorem pre10 (c : Nat) (r : List Nat) : TL.pre [10] (c :: r) = (c == 10) := by
  unfold TL.pre
  show ((c :: r).take 1 == [10]) = (c == 10)
  rw [List.take_succ_cons, List.take_zero]
  simp
theorem spl10 : ∀ (l acc : List Nat), TL.spl [10] 0 acc l ≠ [] ∧ TL.joinL [10] (TL.spl [10] 0 acc l) = acc ++ l
  | [], acc => by
    rw [TL.spl_nil]
    exact ⟨(fun z => nomatch z), by simp [TL.joinL]⟩
  | c :: r, acc => by
    by_cases h : c = 10
    · subst h
      rw [TL.spl_hit (by rw [pre10]; rfl)]
      refine ⟨(fun z => nomatch z), ?_⟩
      obtain ⟨n, j⟩ := spl10 r []
      show TL.joinL [10] (acc :: TL.spl [10] 0 [] r) = _
      cases e : TL.spl [10] 0 [] r with
      | nil => exact absurd e n
      | cons p q =>
        rw [e] at j
        show acc ++ ([10] ++ TL.joinL [10] (p :: q)) = _
        rw [j]
        rfl
    · rw [TL.spl_miss (by rw [pre10]; exact beq_eq_false_iff_ne.mpr h)]
      obtain ⟨n, j⟩ := spl10 r (acc ++ [c])
      refine ⟨n, ?_⟩
      rw [j, List.append_assoc]
      rfl
theorem rowsOf_ne (z : List Nat) : rowsOf z ≠ [] := (spl10 z []).1
theorem join_rowsOf (z : List Nat) : TL.joinL [10] (rowsOf z) = z := (spl10 z []).2
theorem join_all (s : List Nat) : ∀ ys : List (List Nat), (TL.joinL s ys).length + s.length = (ys.map List.length).sum + ys.length * s.length ∨ ys = []
  | [] => .inr rfl
  | [y] => .inl (by
    show y.length + _ = _
    rw [List.map_singleton, List.sum_singleton, List.length_singleton, Nat.one_mul])
  | x :: y :: r => .inl (by
    rcases join_all s (y :: r) with h | h
    · show (x ++ (s ++ TL.joinL s (y :: r))).length + _ = _
      rw [List.length_append, List.length_append, List.map_cons, List.sum_cons, List.length_cons (a := x), Nat.succ_mul]
      omega
    · cases h)
theorem sum_ge {ys : List (List Nat)} {r : List Nat} (h : r ∈ ys) : r.length ≤ (ys.map List.length).sum := by
  induction ys with
  | nil => cases h
  | cons y ys ih =>
    rw [List.map_cons, List.sum_cons]
    rcases List.mem_cons.mp h with rfl | h
    · omega
    · have := ih h
      omega
theorem rowsOf_sz (z : List Nat) : (rowsOf z).length ≤ z.length + 1 ∧ ∀ r ∈ rowsOf z, r.length ≤ z.length := by
  have h := join_all [10] (rowsOf z)
  rw [join_rowsOf] at h
  have h2 : z.length + 1 = ((rowsOf z).map List.length).sum + (rowsOf z).length * 1 := h.resolve_right (rowsOf_ne z)
  have hn : 1 ≤ (rowsOf z).length := List.length_pos_iff.mpr (rowsOf_ne z)
  refine ⟨by omega, fun r hr => ?_⟩
  have := sum_ge hr
  omega
/-- a row of signs for the lamps -/
def isRow (L : Nat) (r : List Nat) : Bool := decide (r.length = L) && r.all fun c => c == 46 || c == 35
def headOk (rs : List (List Nat)) : Bool := decide (1 ≤ (rs.headD []).length) && (decide ((rs.headD []).length ≤ 10) && ((rs.headD []).all (· == 46) && decide (rs.length ≤ 9)))
def writesR (rs : List (List Nat)) : Bool := headOk rs && rs.tail.all (isRow (rs.headD []).length)
def writesB (z : List Nat) : Bool := writesR (rowsOf z)
def rowVal (r : List Nat) : Nat := mask ((List.range r.length).filter fun i => decide (r.getD i 0 = 35))
theorem rowVal_nodup (r : List Nat) : ((List.range r.length).filter fun i => decide (r.getD i 0 = 35)).Nodup := rising_nodup (List.Pairwise.filter _ List.pairwise_lt_range)
theorem rowVal_bit {r : List Nat} {i : Nat} (h : i < r.length) : (rowVal r).testBit i = decide (r.getD i 0 = 35) := by
  unfold rowVal
  rw [mask_bit (rowVal_nodup r)]
  refine decide_eq_decide.mpr ?_
  rw [List.mem_filter, List.mem_range]
  exact ⟨fun x => of_decide_eq_true x.2, fun x => ⟨h, decide_eq_true x⟩⟩
theorem rowVal_lt (r : List Nat) : rowVal r < 2 ^ r.length := mask_lt fun i hi => List.mem_range.mp (List.mem_filter.mp hi).1
theorem rowL_rowVal {L : Nat} {r : List Nat} (h : isRow L r = true) : rowL L (rowVal r) = r := by
  unfold isRow at h
  rw [Bool.and_eq_true] at h
  obtain ⟨h1, h2⟩ := h
  have h1 := of_decide_eq_true h1
  subst h1
  apply List.ext_getElem
  · rw [rowL_len]
  · intro i hi hj
    have ha := rowL_at (L := r.length) (t := rowVal r) hj
    rw [List.getElem?_eq_getElem hi] at ha
    rw [Option.some.inj ha, rowVal_bit hj, List.getD_eq_getElem?_getD, List.getElem?_eq_getElem hj]
    show (if decide (r[i] = 35) = true then 35 else 46) = r[i]
    have hc := List.all_eq_true.mp h2 r[i] (List.getElem_mem hj)
    rw [Bool.or_eq_true, beq_iff_eq, beq_iff_eq] at hc
    rcases hc with hc | hc
    · rw [hc]
      rfl
    · rw [hc]
      rfl
theorem rowVal_rowL {L t : Nat} (h : t < 2 ^ L) : rowVal (rowL L t) = t := by
  apply Nat.eq_of_testBit_eq
  intro i
  by_cases hi : i < L
  · have hl : i < (rowL L t).length := by rw [rowL_len]; exact hi
    rw [rowVal_bit hl, List.getD_eq_getElem?_getD, rowL_at hi]
    show decide ((if t.testBit i = true then 35 else 46) = 35) = t.testBit i
    cases t.testBit i <;> rfl
  · have hp : 2 ^ L ≤ 2 ^ i := Nat.pow_le_pow_right (by decide) (by omega)
    have h1 := rowVal_lt (rowL L t)
    rw [rowL_len] at h1
    rw [Nat.testBit_lt_two_pow (by omega), Nat.testBit_lt_two_pow (by omega)]
theorem isRow_rowL (L t : Nat) : isRow L (rowL L t) = true := by
  unfold isRow
  rw [rowL_len, decide_eq_true rfl, Bool.true_and, List.all_eq_true]
  intro c hc
  unfold rowL at hc
  obtain ⟨i, _, rfl⟩ := List.mem_map.mp hc
  cases t.testBit i <;> rfl
/-- what is read of a text that writes one -/
def lampsOf (z : List Nat) : Nat := ((rowsOf z).headD []).length
def turnsOf (z : List Nat) : List Nat := (rowsOf z).tail.map rowVal
theorem headOk_iff {rs : List (List Nat)} : headOk rs = true ↔ 1 ≤ (rs.headD []).length ∧ (rs.headD []).length ≤ 10 ∧ (rs.headD []).all (· == 46) = true ∧ rs.length ≤ 9 := by
  unfold headOk
  rw [Bool.and_eq_true, Bool.and_eq_true, Bool.and_eq_true, decide_eq_true_iff, decide_eq_true_iff, decide_eq_true_iff]
theorem dots_of {r : List Nat} (h : r.all (· == 46) = true) : dots r.length = r := by
  unfold dots
  refine (List.eq_replicate_iff.mpr ⟨rfl, fun c hc => ?_⟩).symm
  exact beq_iff_eq.mp (List.all_eq_true.mp h c hc)
theorem writes_ok {z : List Nat} (h : writesB z = true) : HouseOk (lampsOf z) (turnsOf z) ∧ textL (lampsOf z) (turnsOf z) = z := by
  unfold writesB writesR at h
  rw [Bool.and_eq_true] at h
  obtain ⟨h1, h2⟩ := h
  obtain ⟨a1, a2, a3, a4⟩ := headOk_iff.mp h1
  have hne := rowsOf_ne z
  have hl : 1 ≤ (rowsOf z).length := List.length_pos_iff.mpr hne
  have hrow : ∀ r ∈ (rowsOf z).tail, isRow (lampsOf z) r = true := List.all_eq_true.mp h2
  refine ⟨⟨a1, a2, ?_, fun t ht => ?_⟩, ?_⟩
  · unfold turnsOf
    rw [List.length_map, List.length_tail]
    omega
  · unfold turnsOf at ht
    obtain ⟨r, hr, rfl⟩ := List.mem_map.mp ht
    have := hrow r hr
    unfold isRow at this
    rw [Bool.and_eq_true] at this
    rw [← of_decide_eq_true this.1]
    exact rowVal_lt r
  · unfold textL
    have e : rowsL (lampsOf z) (turnsOf z) = rowsOf z := by
      unfold rowsL turnsOf
      rw [List.map_map]
      have e1 : (rowsOf z).tail.map (rowL (lampsOf z) ∘ rowVal) = (rowsOf z).tail := by
        conv => rhs; rw [← List.map_id (rowsOf z).tail]
        exact List.map_congr_left fun r hr => rowL_rowVal (hrow r hr)
      rw [e1]
      have e2 : dots (lampsOf z) = (rowsOf z).headD [] := dots_of a3
      rw [e2]
      cases hz : rowsOf z with
      | nil => exact absurd hz hne
      | cons x xs => rfl
    rw [e, join_rowsOf]
theorem rowsOf_text {L : Nat} {ts : List Nat} : rowsOf (textL L ts) = rowsL L ts := spl_text
theorem writes_text {L : Nat} {ts : List Nat} (ok : HouseOk L ts) : writesB (textL L ts) = true ∧ lampsOf (textL L ts) = L ∧ turnsOf (textL L ts) = ts := by
  have h1 : (rowsL L ts).headD [] = dots L := rfl
  have h2 : (rowsL L ts).tail = ts.map (rowL L) := rfl
  have h3 : (rowsL L ts).length = ts.length + 1 := by unfold rowsL; simp
  obtain ⟨l1, l2, few, low⟩ := ok
  refine ⟨?_, ?_, ?_⟩
  · unfold writesB writesR
    rw [rowsOf_text, Bool.and_eq_true]
    refine ⟨headOk_iff.mpr ?_, ?_⟩
    · rw [h1, dots_len, h3]
      refine ⟨l1, l2, ?_, by omega⟩
      rw [List.all_eq_true]
      intro c hc
      unfold dots at hc
      exact beq_iff_eq.mpr (List.eq_of_mem_replicate hc)
    · rw [h1, h2, dots_len, List.all_eq_true]
      intro r hr
      obtain ⟨t, _, rfl⟩ := List.mem_map.mp hr
      exact isRow_rowL L t
  · unfold lampsOf
    rw [rowsOf_text, h1, dots_len]
  · unfold turnsOf
    rw [rowsOf_text, h2, List.map_map]
    conv => rhs; rw [← List.map_id ts]
    exact List.map_congr_left fun t ht => rowVal_rowL (low t ht)
/-! strip of dots -/
theorem tw_all {p : Nat → Bool} : ∀ {l : List Nat}, l.all p = true → l.takeWhile p = l
  | [], _ => rfl
  | c :: r, h => by
    rw [List.all_cons, Bool.and_eq_true] at h
    rw [List.takeWhile_cons, if_pos h.1, tw_all h.2]
theorem tw_lt {p : Nat → Bool} : ∀ {l : List Nat}, l.all p = false → (l.takeWhile p).length < l.length
  | [], h => nomatch h
  | c :: r, h => by
    by_cases hc : p c = true
    · rw [List.takeWhile_cons, if_pos hc, List.length_cons, List.length_cons]
      rw [List.all_cons, hc, Bool.true_and] at h
      have := tw_lt h
      omega
    · rw [List.takeWhile_cons, if_neg hc]
      exact Nat.zero_lt_succ _
theorem drop_tw {p : Nat → Bool} : ∀ {l : List Nat}, l.all p = false → (l.drop (l.takeWhile p).length).all p = false
  | [], h => nomatch h
  | c :: r, h => by
    by_cases hc : p c = true
    · rw [List.takeWhile_cons, if_pos hc, List.length_cons, List.drop_succ_cons]
      rw [List.all_cons, hc, Bool.true_and] at h
      exact drop_tw h
    · rw [List.takeWhile_cons, if_neg hc, List.length_nil, List.drop_zero, List.all_cons, (Bool.not_eq_true _).mp hc]
      rfl
theorem strip_iff (a : List Nat) : (Txt.stripChars (S a) (S [46]) = S []) ↔ a.all (· == 46) = true := by
  have hp : (S [46]).cps.contains = fun c => c == 46 := by
    funext c
    simp [Bool.beq_eq_decide_eq]
  have hlo : stripLo (fun c : Nat => c == 46) true (S a) = (a.takeWhile (· == 46)).length := by
    unfold stripLo
    rw [if_pos rfl]
  have hhi : stripHi (fun c : Nat => c == 46) true (S a) (a.takeWhile (· == 46)).length = a.length - ((a.drop (a.takeWhile (· == 46)).length).reverse.takeWhile (· == 46)).length := by
    unfold stripHi
    rw [if_pos rfl, S_len]
  have hT : TL.tl (stripped (fun c : Nat => c == 46) true true (S a)) = (a.drop (a.takeWhile (· == 46)).length).take (a.length - ((a.drop (a.takeWhile (· == 46)).length).reverse.takeWhile (· == 46)).length - (a.takeWhile (· == 46)).length) := by
    unfold stripped
    rw [hlo, hhi, TL.tl_strSub]
  unfold Txt.stripChars Txt.stripBy
  rw [hp]
  cases h : a.all (· == 46) with
  | true =>
    have e1 := tw_all h
    rw [e1, List.drop_length] at hT
    have e2 : stripped (fun c : Nat => c == 46) true true (S a) = S [] := TL.ext_tl (by rw [hT, List.take_nil])
    refine ⟨fun _ => rfl, fun _ => ?_⟩
    split
    · rename_i hs
      unfold stripSame at hs
      rw [Bool.and_eq_true, hlo, e1, beq_iff_eq] at hs
      rw [List.length_eq_zero_iff.mp hs.1]
    · exact e2
  | false =>
    refine ⟨fun z => ?_, fun z => nomatch z⟩
    exfalso
    have h1 := tw_lt h
    have h2 := drop_tw h
    have h3 : ((a.drop (a.takeWhile (· == 46)).length).reverse).all (· == 46) = false := by rw [List.all_reverse]; exact h2
    have h4 := tw_lt h3
    rw [List.length_reverse, List.length_drop] at h4
    split at z
    · have := congrArg (fun x : Str => x.length) z
      simp only [S_len] at this
      have h5 : a.length = 0 := this
      omega
    · have h6 := congrArg (fun x : Str => (TL.tl x).length) z
      simp only [hT] at h6
      rw [List.length_take, List.length_drop] at h6
      have h7 : min (a.length - ((a.drop (a.takeWhile (· == 46)).length).reverse.takeWhile (· == 46)).length - (a.takeWhile (· == 46)).length) (a.length - (a.takeWhile (· == 46)).length) = 0 := h6
      omega
end Sw

/-! Texts read: a house, or an error. -/
namespace Sw
open PySem PySem.Spec PyProof.Rows L2 Evl SX
/-- what is no text -/
def NoStr (K : PySem.W.Frag) (H : Hp) (x : V) : Prop := ∃ t, TyX K H x (.type t) ∧ kitB t "str" = some false
def NewHouse (K : PySem.W.Frag) (a : Ad) (L : Nat) (ts : List Nat) : RP := fun v fr H2 => ∃ h dx l, v = .ref h ∧ fr h ∧ fr l ∧ HouseAt K a H2 h L ts dx l
def spReadX (K : PySem.W.Frag) (a : Ad) : Sp := fun vs H Q E => ∃ x, vs = [x] ∧ ((∃ z : List Nat, x = .str (S z) ∧ z.length ≤ 10000 ∧ (writesB z = true → RetP (NewHouse K a (lampsOf z) (turnsOf z)) H Q) ∧ (writesB z = false → ∀ H1, Ex H H1 → E (.ref a.BadText) none H1)) ∨
  (NoStr K H x ∧ ∀ H1, Ex H H1 → E (.ref a.BadText) none H1))
theorem txs_head {ys : List (List Nat)} (h : ys ≠ []) : atI (txs ys) 0 = some (.str (S (ys.headD []))) := by
  cases ys with
  | nil => exact absurd rfl h
  | cons y ys => exact atI_nat (xs := txs (y :: ys)) (j := 0) rfl
theorem txs_len (ys : List (List Nat)) : (txs ys).length = ys.length := by unfold txs; rw [List.length_map]
theorem txs_app (a b : List (List Nat)) : txs (a ++ b) = txs a ++ txs b := by unfold txs; rw [List.map_append]
theorem dec_strS (x : Str) (b : List Nat) : decide (V.str x = V.str (S b)) = decide (x = S b) := decide_eq_decide.mpr ⟨fun h => V.str.inj h, fun h => by rw [h]⟩
theorem rowVal_sum (r : List Nat) : (((List.range r.length).filter fun i => decide (r.getD i 0 = 35)).map fun i => ((2 ^ i : Nat) : Int)).sum = (rowVal r : Int) := by
  have e1 := sum_cast (((List.range r.length).filter fun i => decide (r.getD i 0 = 35)).map fun k => 2 ^ k)
  rw [List.map_map, sum_mask (rowVal_nodup r)] at e1
  exact e1
section
variable {P : Program} {w : World} {K : PySem.W.Frag} {mg : Str → Option Value} {base : Heap} {a : Ad}
theorem okX_read (T : Txt K mg a) : Cal P w K mg base (L2N.CX P w) 4 "read" ["text"] (spReadX K a) := by
  obtain ⟨f, fd, F, hm⟩ := T.d_read
  refine ⟨f, fd, okN F sc_read (fun vs H Q E h => by first | (obtain ⟨_, rfl, _⟩ := h; rfl) | (obtain ⟨_, _, rfl, _⟩ := h; rfl) | (obtain ⟨_, _, _, rfl, _⟩ := h; rfl) | (obtain ⟨_, _, _, _, rfl, _⟩ := h; rfl) | (obtain ⟨_, _, _, _, _, rfl, _⟩ := h; rfl) | (obtain ⟨_, _, _, _, _, _, rfl, _⟩ := h; rfl) | (obtain ⟨_, _, _, _, _, _, _, rfl, _⟩ := h; rfl) | (obtain ⟨_, _, _, _, _, _, _, _, rfl, _⟩ := h; rfl) | (obtain ⟨_, _, _, _, _, _, _, _, _, rfl, _⟩ := h; rfl) | (obtain ⟨_, _, _, _, _, _, _, _, _, _, rfl, _⟩ := h; rfl) | (obtain ⟨_, _, _, _, _, _, _, _, _, _, _, rfl, _⟩ := h; rfl) | (obtain ⟨_, _, _, _, _, _, _, _, _, _, _, _, rfl, _⟩ := h; rfl) | (obtain ⟨_, _, _, _, _, _, _, _, _, _, _, _, _, rfl, _⟩ := h; rfl) | (obtain ⟨_, _, _, _, _, _, _, _, _, _, _, _, _, _, rfl, _⟩ := h; rfl) | (obtain ⟨_, _, _, _, _, _, _, _, _, _, _, _, _, _, _, rfl, _⟩ := h; rfl) | (obtain ⟨_, _, _, _, _, _, _, _, _, _, _, _, _, _, _, _, rfl, _⟩ := h; rfl) | (obtain ⟨_, _, _, _, _, _, _, _, _, _, _, _, _, _, _, _, _, rfl, _⟩ := h; rfl) | (obtain ⟨_, _, _, _, _, _, _, _, _, _, _, _, _, _, _, _, _, _, rfl, _⟩ := h; rfl) | (obtain ⟨_, _, _, _, _, _, _, _, _, _, _, _, _, _, _, _, _, _, _, rfl, _⟩ := h; rfl) | (obtain ⟨_, _, _, _, _, _, _, _, _, _, _, _, _, _, _, _, _, _, _, _, rfl, _⟩ := h; rfl) | (obtain ⟨_, _, _, _, _, _, _, _, _, _, _, _, _, _, _, _, _, _, _, _, _, rfl, _⟩ := h; rfl) | (obtain ⟨_, _, _, _, _, _, _, _, _, _, _, _, _, _, _, _, _, _, _, _, _, _, rfl, _⟩ := h; rfl) | (obtain ⟨_, _, _, _, _, _, _, _, _, _, _, _, _, _, _, _, _, _, _, _, _, _, _, rfl, _⟩ := h; rfl)) (fun cdv A outer s H vs Q E hr h => ?_), hm, F.kp, F.binds (ps := ["text"]) fun _ _ _ _ _ _ us hl => match us, hl with | [_], _ => rfl⟩
  refine ⟨_, (pss_cons (ps_if (pt_not (pt_val (pe_callB (call_isiK' K) (by rfl) T.n_isinstance (by decide +kernel) (pa_cons (pv 0) (pa_cons (pe_bltn (v := .ty "str") rfl T.n_str (by decide +kernel) rfl) pa_nil))))) (pss_one (L2N.ps_raise rfl (L2N.takes_of rfl rfl rfl rfl) (L2N.pmk_own PySem.F.excBase_ValueError T.x_BadText T.g_BadText T.k_BadText (raises_own T.b_BadText T.t_BadText) (by rfl)))) pss_nil)
    (pss_cons (pset 1 sc_read.nd (pe_split (pv 0) pe_str))
    (pss_cons (pset 2 sc_read.nd (pe_callB call_len_str (by rfl) T.n_len (by decide +kernel) (pa_cons (pe_ix (ix_listK K) (pv 1) pe_int (fun _ _ => rfl)) pa_nil)))
    (pss_cons (ps_if (PW.pt (pw_or (pt_not (pt_chain op_le op_le pe_int (pv 2) (pe_gint T.g_LAMPS))) (pw_or (pt_cmpR op_ne (pe_bm PySem.F.plainAttrs_str PySem.F.slot_str_strip PySem.F.type_str_strip mt_stripChars (pe_ix (ix_listK K) (pv 1) pe_int (fun _ _ => rfl)) (pa_cons pe_str pa_nil)) pe_str (nomark _)) (pw_or1 (pt_cmpR op_gt (pe_callB (call_lenK K) (by rfl) T.n_len (by decide +kernel) (pa_cons (pv 1) pa_nil)) (pe_op op_add (pe_gint T.g_SWITCHES) pe_int) (nomark _)))))) (pss_one (L2N.ps_raise rfl (L2N.takes_of rfl rfl rfl rfl) (L2N.pmk_own PySem.F.excBase_ValueError T.x_BadText T.g_BadText T.k_BadText (raises_own T.b_BadText T.t_BadText) (by rfl)))) pss_nil)
    (pss_cons (pset 3 sc_read.nd (pe_lst pa_nil))
    (pss_cons (ps_for (passes_of rfl) rfl (pi_listK K (pe_slice (sl_listK K) (pv 1) (po_some pe_int) po_none)) (pgn 4 sc_read.nd) (pss_cons (ps_if (PW.pt (pw_or (pt_cmpR op_ne (pe_callB call_len_str (by rfl) T.n_len (by decide +kernel) (pa_cons (pv 4) pa_nil)) (pv 2) (nomark _)) (pw_or1 (pt_not (pt_val (pe_callB (cr_allK K) (by rfl) T.n_all (by decide +kernel) (pa_cons (pe_lc (own := [("sign", 5)]) (g := gName 5) rfl sc_read.nd (pi_str (pv 4)) (blkOk_by (N := ["text", "rows", "lamps", "switches", "row", "sign", "lamp"]) (sc := defScope s_read) (by decide +kernel)) (fun _ _ _ _ _ => (pgn 5 sc_read.nd)) (fun _ _ _ _ _ => pts_nil) (fun _ _ _ _ _ => (pe_cmpR op_in_sign (pv 5) pe_str (by rfl)))) pa_nil))))))) (pss_one (L2N.ps_raise rfl (L2N.takes_of rfl rfl rfl rfl) (L2N.pmk_own PySem.F.excBase_ValueError T.x_BadText T.g_BadText T.k_BadText (raises_own T.b_BadText T.t_BadText) (by rfl)))) pss_nil)
    (pss_one (ps_expr (pe_bm PySem.F.plainAttrs_list PySem.F.slot_list_append PySem.F.type_list_append mt_append (pv 3) (pa_cons (pe_callB (cr_sumK K) (by rfl) T.n_sum (by decide +kernel) (pa_cons (pe_lc (own := [("lamp", 6)]) (g := gName 6) rfl sc_read.nd (pi_range1 (by rfl) T.n_range (pa_cons (pv 2) pa_nil)) (blkOk_by (N := ["text", "rows", "lamps", "switches", "row", "sign", "lamp"]) (sc := defScope s_read) (by decide +kernel)) (fun _ _ _ _ _ => (pgn 6 sc_read.nd)) (fun _ _ _ _ _ => (pts_one (pt_cmpR op_eq (pe_ix ix_str (pv 4) (pv 6) (fun _ _ => rfl)) pe_str (nomark _)))) (fun _ _ _ _ _ => (pe_op op_shl pe_int (pv 6)))) pa_nil)) pa_nil))))))
    (pss_one (ps_ret (pe_calK (ok_House_init (K := K) (a := a) T) (hr.mono (by decide)) pass0 (pa_cons (pv 2) (pa_cons (pv 3) pa_nil))))))))))), ?_⟩
  obtain ⟨x, rfl, ⟨z, rfl, hz, kw, kn⟩ | ⟨⟨t, ty, kt⟩, kn⟩⟩ := h
  rotate_left
  · refine St.at ?_
    refine st_when (H := H) (b := true) (et_to (et_not (et_B (ev_cb (by walk_at "ea") (rc_isiB ty kt)))) rfl) (fun _ => ?_) fun z => nomatch z
    exact fun H1 e1 => kn H1 e1
  have hne := rowsOf_ne z
  obtain ⟨hsz1, hsz2⟩ := rowsOf_sz z
  have hdot : ∀ (σ : L2.St) (H : Hp), Ev (tC (.str ".")) σ H (.str (S [46])) := fun σ H => ev_to ev_c (congrArg V.str lit_dot)
  refine St.at ?_
  refine st_when (H := H) (b := false) (et_to (et_not (et_B (by walk_at "ev"))) rfl) (fun z => nomatch z) fun _ => ?_
  refine st_asgL (el_split (b := [10]) (ev_var rfl) (ev_to ev_c (congrArg V.str lit_nl)) (fun z => nomatch z) (by decide) (by omega)) fun b H1 nb e1 hb => ?_
  have hb : H1 b = some (.lst (txs (rowsOf z))) := hb
  have hr0 : ∀ (σ : L2.St) (H2 : Hp) (te : TE), Ex H1 H2 → Ev te σ H2 (.ref b) → Ev (tOp (rIxL K) te (tC (.int 0))) σ H2 (.str (S ((rowsOf z).headD []))) := fun σ H2 te e2 he => ev_op he ev_c (rv_ixL (sq_of (e2 _ _ hb)) (txs_head hne))
  have hhd : ((rowsOf z).headD []).length ≤ z.length := by
    cases h : rowsOf z with
    | nil => exact absurd h hne
    | cons y ys => exact hsz2 y (by rw [h]; exact List.mem_cons_self)
  refine st_asg (v := .int (((rowsOf z).headD []).length : Int)) (ev_cb (ea_cons (hr0 _ _ _ (Ex.refl _) (ev_var rfl)) ea_nil) (rc_lenS (by omega))) ?_
  refine st_when (b := !headOk (rowsOf z)) (et_to (et_or (et_not (et_test (ev_chain ev_c (ev_var rfl) rv_I0 ev_c rv_I0))) fun _ => et_or (et_test (ev_op (ev_strip (hr0 _ _ _ (Ex.refl _) (ev_var rfl)) (hdot _ _) (by omega)) (ev_to ev_c (congrArg V.str lit_nil)) (rv_ne rfl))) fun _ => et_test (ev_op (ev_cb (ea_cons (ev_var rfl) ea_nil) (rc_len (sq_of hb))) (ev_op ev_c ev_c rv_I0) rv_I0)) ?_) (fun hh => ?_) fun hh => ?_
  · rw [dec_strS, txs_len]
    have e1 : decide (Txt.stripChars (S ((rowsOf z).headD [])) (S [46]) = S []) = ((rowsOf z).headD []).all (· == 46) := by
      cases h : ((rowsOf z).headD []).all (· == 46) with
      | true => exact decide_eq_true ((strip_iff _).mpr h)
      | false => exact decide_eq_false fun q => by rw [(strip_iff _).mp q] at h; cases h
    rw [e1]
    unfold headOk
    have e2 : decide ((1 : Int) ≤ (((rowsOf z).headD []).length : Int)) = decide (1 ≤ ((rowsOf z).headD []).length) := decide_eq_decide.mpr (by omega)
    have e3 : decide ((((rowsOf z).headD []).length : Int) ≤ 10) = decide (((rowsOf z).headD []).length ≤ 10) := decide_eq_decide.mpr (by omega)
    have e4 : decide (((rowsOf z).length : Int) > 8 + 1) = !decide ((rowsOf z).length ≤ 9) := by
      rw [← decide_not]
      exact decide_eq_decide.mpr (by omega)
    rw [e2, e3, e4]
    cases decide (1 ≤ ((rowsOf z).headD []).length) <;> cases decide (((rowsOf z).headD []).length ≤ 10) <;> cases ((rowsOf z).headD []).all (· == 46) <;> cases decide ((rowsOf z).length ≤ 9) <;> rfl
  · have hw : writesB z = false := by
      rw [Bool.not_eq_true'] at hh
      unfold writesB writesR
      rw [hh]
      rfl
    exact fun H2 e2 => kn hw H2 (e1.trans e2)
  rw [Bool.not_eq_false'] at hh
  obtain ⟨a1, a2, a3, a4⟩ := headOk_iff.mp hh
  refine st_asgL (el_lst ea_nil (by show 0 ≤ 100000; decide)) fun q H2 nq e2 hq => ?_
  refine st_bindForF (el_p (el_sl (ev_var rfl) (eo_some ev_c) eo_none (sq_of (e2 _ _ hb)))) fun v fr H3 e3 f3 p3 => ?_
  obtain ⟨c, rfl, fc, hc⟩ := p3
  have ecut : cutV (txs (rowsOf z)) (some 1) none = txs (rowsOf z).tail := by
    have h1 := cut_dropN (xs := txs (rowsOf z)) (i := 1) (by rw [txs_len]; exact List.length_pos_iff.mpr hne)
    rw [show ((1 : Nat) : Int) = 1 from rfl] at h1
    rw [h1]
    unfold txs
    rw [← List.map_drop, List.drop_one]
  rw [ecut] at hc
  have hcq : c ≠ q := (ne_of_none hq (f3 _ fc)).symm
  have e23 := e2.trans e3
  have htl : (rowsOf z).tail.length ≤ 8 := by rw [List.length_tail]; omega
  refine st_forLn (H := H3) ev_it (sq_of hc) (fun i σ' H' => Ex H1 H' ∧ H' c = some (.lst (txs (rowsOf z).tail)) ∧ H' q = some (.lst (nats (((rowsOf z).tail.take i).map rowVal))) ∧ (∀ r ∈ (rowsOf z).tail.take i, isRow ((rowsOf z).headD []).length r = true) ∧ ∃ v4, σ' = [some (.str (S z)), some (.ref b), some (.int (((rowsOf z).headD []).length : Int)), some (.ref q), v4, none, none])
    (fun H4 e4 => ⟨e23.trans e4, e4 _ _ hc, e4 _ _ (e3 _ _ hq), (fun r hr => by rw [List.take_zero] at hr; cases hr), none, rfl⟩) (fun i σ' H' p => sq_of p.2.1) ?_ ?_
  · rintro i x σ' H' hx ⟨e, hc', hq', hrows, v4, rfl⟩
    obtain ⟨y, hy, rfl⟩ := txs_at hx
    have hi : i < (rowsOf z).tail.length := (List.getElem?_eq_some_iff.mp hy).1
    have hym : y ∈ (rowsOf z).tail := List.mem_of_getElem? hy
    have hyl : y.length ≤ z.length := hsz2 y (List.mem_of_mem_tail hym)
    refine St.at ?_
    refine st_when (b := !isRow ((rowsOf z).headD []).length y) (et_to (et_or (et_test (ev_op (ev_cb (ea_cons (ev_var rfl) ea_nil) (rc_lenS (by omega))) (ev_var rfl) rv_neI)) fun _ => et_not (et_B (ev_all (bs := y.map fun c => decide (c ∈ [46, 35])) ?_))) ?_) (fun hh => ?_) fun hh => ?_
    · rw [List.map_map]
      refine el_signs (fun c => .bl (decide (c ∈ [46, 35]))) (ev_var rfl) (by omega) (fun x => rfl) fun d hd H4 e4 => ?_
      exact ev_op (ev_var rfl) (ev_to ev_c (congrArg V.str lit_both)) fun H5 e5 Q r => ⟨d, S [46, 35], rfl, rfl, r H5 (Ex.refl _)⟩
    · unfold isRow
      have e2 : decide ((y.length : Int) = (((rowsOf z).headD []).length : Int)) = decide (y.length = ((rowsOf z).headD []).length) := decide_eq_decide.mpr (by omega)
      have e3 : (y.map fun c => decide (c ∈ [46, 35])).all id = y.all fun c => c == 46 || c == 35 := by
        rw [List.all_map]
        congr 1
        funext c
        show decide (c ∈ [46, 35]) = (c == 46 || c == 35)
        rw [Bool.beq_eq_decide_eq, Bool.beq_eq_decide_eq, ← Bool.decide_or]
        exact decide_eq_decide.mpr (by simp)
      rw [e2, e3]
      cases decide (y.length = ((rowsOf z).headD []).length) <;> cases (y.all fun c => c == 46 || c == 35) <;> rfl
    · have hw : writesB z = false := by
        rw [Bool.not_eq_true'] at hh
        unfold writesB writesR
        have : ((rowsOf z).tail.all (isRow ((rowsOf z).headD []).length)) = false := by
          rw [List.all_eq_false]
          exact ⟨y, hym, by rw [hh]; exact Bool.false_ne_true⟩
        rw [this, Bool.and_false]
      exact fun H4 e4 => kn hw H4 (e1.trans (e.trans e4))
    rw [Bool.not_eq_false'] at hh
    have hl : y.length = ((rowsOf z).headD []).length := by
      have h2 := hh
      unfold isRow at h2
      rw [Bool.and_eq_true] at h2
      exact of_decide_eq_true h2.1
    refine st_app1 hq' (ev_var rfl) (v := .int (rowVal y : Int)) (ev_to (ev_sum (ns := ((List.range y.length).filter fun i => decide (y.getD i 0 = 35)).map fun i => ((2 ^ i : Nat) : Int)) ?_) (by rw [rowVal_sum])) (by rw [nats_len, List.length_map, List.length_take]; omega) fun H4 e4 => ⟨(e.trans e4).mut nq, ?_, ?_, ?_, _, rfl⟩
    · rw [List.map_map]
      refine el_rng (n := y.length) (fun i => decide (y.getD i 0 = 35)) (fun i => .int ((2 ^ i : Nat) : Int)) (ea_cons (ev_to (ev_var rfl) (by rw [hl])) ea_nil) (by omega) (fun x => rfl) (fun k hk H4 e4 => ?_) fun k hk _ H4 e4 => ev_shl1 ev_c (ev_var rfl) (by omega)
      have hy2 : y[k]? = some (y.getD k 0) := by rw [List.getD_eq_getElem?_getD, List.getElem?_eq_getElem hk]; rfl
      refine et_to (et_test (ev_op (ev_op (ev_var rfl) (ev_var rfl) (rv_ixS (by omega) hy2)) (ev_to ev_c (congrArg V.str lit_hash)) rv_eqS)) ?_
      exact decide_eq_decide.mpr (by simp)
    · rw [upd_ne hcq]
      exact e4 _ _ hc'
    · rw [upd_same, take_snoc hy, List.map_append, nats_app]
      rfl
    · intro r hr
      rw [take_snoc hy] at hr
      rcases List.mem_append.mp hr with hr | hr
      · exact hrows r hr
      · rw [List.mem_singleton.mp hr]
        exact hh
  · rintro σ' H' ⟨e, hc', hq', hrows, v4, rfl⟩
    rw [txs_len, List.take_of_length_le (Nat.le_refl _)] at hq' hrows
    have hw : writesB z = true := by
      unfold writesB writesR
      rw [hh, Bool.true_and, List.all_eq_true]
      exact hrows
    obtain ⟨ok, _⟩ := writes_ok hw
    exact St.at (st_retP (evp_house (L := lampsOf z) (ts := turnsOf z) (s := q) (ea_cons (ev_var rfl) (ea_cons (ev_var rfl) ea_nil)) (.of hq') ok) (RetP.ex (kw hw) (e1.trans e)))
theorem ok_read (T : Txt K mg a) : Cal P w K mg base CX0 4 "read" ["text"] (spRead K a) := Sw.Cal.quiet (okX_read T) fun vs H Q E h => by
  obtain ⟨L, ts, rfl, ok, kk⟩ := h
  obtain ⟨h1, h2, h3⟩ := writes_text ok
  refine ⟨_, rfl, .inl ⟨_, rfl, Nat.le_trans (text_len ok) (by decide), fun _ => ?_, fun z => ?_⟩⟩
  · rw [h2, h3]
    exact kk
  · rw [h1] at z
    cases z
theorem exc_BadText (T : Txt K mg a) : ExcC K a.BadText := ⟨T.eg_BadText, T.ek_BadText, T.b_BadText, T.ed_BadText, T.ea_BadText, T.o_hn, T.o_htk, T.em_BadText⟩
theorem ex_BadText (T : Txt K mg a) : PySem.W.exmOne K (.ref a.BadText) (.ref a.LampError) = some true := PySem.W.exm_ref T.lb T.ld T.lt T.es_BadText
end
end Sw

/-! Law 8: its own defs. -/
namespace Sw
open PySem PySem.Spec PyProof.Rows L2 Evl SX
def spRefused (K : PySem.W.Frag) : Sp := fun vs H Q _ => ∃ x, vs = [x] ∧ ((∃ z : List Nat, x = .str (S z) ∧ z.length ≤ 10000 ∧ writesB z = false) ∨ NoStr K H x) ∧ RetV (.bl true) H Q
/-- the law's own look at rows -/
def rowAt (rs : List (List Nat)) (j : Nat) : Bool := decide ((rs.getD j []).length = (rs.headD []).length) && (rs.getD j []).all fun c => !(!decide ([c] = [46]) && (!decide ([c] = [35]) || decide ((j : Int) = 0)))
def lwR (rs : List (List Nat)) : Bool := decide (1 ≤ (rs.headD []).length) && (decide ((rs.headD []).length ≤ 10) && (decide (rs.length ≤ 9) && (List.range rs.length).all (rowAt rs)))
theorem lw_eq {rs : List (List Nat)} (h : rs ≠ []) : lwR rs = writesR rs := by
  cases rs with
  | nil => exact absurd rfl h
  | cons r t =>
    have e1 : (List.range (r :: t).length).all (rowAt (r :: t)) = (r.all (· == 46) && t.all (isRow r.length)) := by
      rw [List.length_cons, List.range_succ_eq_map, List.all_cons, List.all_map]
      congr 1
      · show (decide (r.length = r.length) && r.all _) = _
        rw [decide_eq_true rfl, Bool.true_and]
        congr 1
        funext c
        by_cases hc : c = 46
        · simp [hc]
        · simp [hc]
      · rw [Bool.eq_iff_iff, List.all_eq_true, List.all_eq_true]
        have key : ∀ j, j < t.length → (rowAt (r :: t) (j + 1) = isRow r.length (t.getD j [])) := fun j hj => by
          unfold rowAt isRow
          show (decide ((t.getD j []).length = r.length) && _) = _
          congr 1
          show (t.getD j []).all _ = _
          congr 1
          funext c
          have h0 : ¬ (((j + 1 : Nat) : Int) = 0) := by omega
          by_cases hc : c = 46 <;> by_cases hd : c = 35 <;> simp [hc, hd] <;> omega
        constructor
        · intro hh x hx
          obtain ⟨j, hj, rfl⟩ := List.getElem_of_mem hx
          have h1 : rowAt (r :: t) (j + 1) = true := hh j (List.mem_range.mpr hj)
          rw [key j hj, List.getD_eq_getElem?_getD, List.getElem?_eq_getElem hj] at h1
          exact h1
        · intro hh j hj
          have hj := List.mem_range.mp hj
          show rowAt (r :: t) (j + 1) = true
          rw [key j hj, List.getD_eq_getElem?_getD, List.getElem?_eq_getElem hj]
          exact hh _ (List.getElem_mem hj)
    unfold lwR writesR headOk
    rw [e1]
    show (decide (1 ≤ r.length) && (decide (r.length ≤ 10) && (decide ((r :: t).length ≤ 9) && (r.all (· == 46) && t.all (isRow r.length))))) = ((decide (1 ≤ r.length) && (decide (r.length ≤ 10) && (r.all (· == 46) && decide ((r :: t).length ≤ 9)))) && t.all (isRow r.length))
    cases decide (1 ≤ r.length) <;> cases decide (r.length ≤ 10) <;> cases r.all (· == 46) <;> cases decide ((r :: t).length ≤ 9) <;> rfl
def spLWrites : Sp := fun vs H Q _ => ∃ z : List Nat, vs = [.str (S z)] ∧ z.length ≤ 10000 ∧ RetV (.bl (writesB z)) H Q
def spLRight : Sp := fun vs H Q _ => ∃ z : List Nat, vs = [.str (S z)] ∧ z.length ≤ 10000 ∧ RetV (.bl true) H Q
def sgs : List Nat := [46, 35, 46, 35, 32, 42, 49, 120, 9, 10, 10, 48]
/-- a text with one sign changed -/
def otherS (z : List Nat) (c : Int) (k : Nat) : Str :=
  if dr c (k + 5) 3 = 0 then cutS (S z) none (some (dr c k (z.length + 1) : Int)) ++ S [sgs.getD (dr c (k + 3) 12) 0] ++ cutS (S z) (some (dr c k (z.length + 1) : Int)) none
  else cutS (S z) none (some (dr c k (z.length + 1) : Int)) ++ (if dr c (k + 5) 3 = 1 then S [] else S [sgs.getD (dr c (k + 3) 12) 0]) ++ cutS (S z) (some ((dr c k (z.length + 1) : Int) + 1)) none
def spOther : Sp := fun vs H Q _ => ∃ (z : List Nat) (c : Int) (k N : Nat), vs = [.str (S z), .int c, .int (k : Int)] ∧ z.length ≤ 1000 ∧ Sm N c ∧ N ≤ 2000000 ∧ k ≤ 10 ∧ RetV (.str (otherS z c k)) H Q
theorem cut_len (x : Str) (lo hi : Option Int) : (cutS x lo hi).length ≤ x.length := by
  unfold cutS
  show (List.toArray _).size ≤ _
  rw [List.size_toArray, List.length_take, List.length_drop, Array.length_toList]
  show _ ≤ x.cps.size
  omega
theorem cat_len (x y : Str) : (x ++ y).length = x.length + y.length := Array.size_append ..
theorem other_len (z : List Nat) (c : Int) (k : Nat) : (otherS z c k).length ≤ 2 * z.length + 1 := by
  have h1 := cut_len (S z) none (some (dr c k (z.length + 1) : Int))
  have h2 := cut_len (S z) (some (dr c k (z.length + 1) : Int)) none
  have h3 := cut_len (S z) (some ((dr c k (z.length + 1) : Int) + 1)) none
  rw [S_len z] at h1 h2 h3
  unfold otherS
  split
  · rw [cat_len, cat_len, S_len [_], List.length_singleton]
    omega
  · split
    · rw [cat_len, cat_len, S_len [], List.length_nil]
      omega
    · rw [cat_len, cat_len, S_len [_], List.length_singleton]
      omega
section
variable {K : PySem.W.Frag} {σ : L2.St} {H H' : Hp} {te ta tb tc : TE} {P P' P1 P2 : RP}
theorem rv_catS {x y : Str} (h : x.length + y.length ≤ 100000) : RV (fun x y H Q => ∃ i j, x = .str i ∧ y = .str j ∧ i.length + j.length ≤ sizeLine ∧ Q (.str (i ++ j)) H) (.str x) (.str y) H (.str (x ++ y)) := fun H1 _ _ q => ⟨x, y, rfl, rfl, sz_of h, q H1 (Ex.refl H1)⟩
theorem ev_slS {tl th : TO} {z : Str} {lo hi : Option Int} (h : Ev te σ H (.str z)) (h1 : EvO tl σ H lo) (h2 : EvO th σ H hi) (hz : z.length ≤ 100000) : Ev (tSl rSlS te tl th) σ H (.str (cutS z lo hi)) := fun H1 e Q q =>
  h H1 e _ fun H2 e2 => h1 H2 (e.trans e2) _ fun H3 e3 => h2 H3 ((e.trans e2).trans e3) _ fun H4 e4 => ⟨z, rfl, sz_of hz, q H4 ((e2.trans e3).trans e4)⟩
/-- xs[i] of a new list -/
theorem ev_ixLn {xs : List V} {v : V} {i : Int} (ha : EvL ta σ H xs) (hb : Ev tb σ H (.int i)) (hv : atI xs i = some v) : Ev (tOp (rIxL K) ta tb) σ H v := fun H1 e Q q =>
  ha H1 e _ fun p H2 _ e2 hp => hb H2 (e.trans e2) _ fun H3 e3 => ⟨p, xs, i, v, rfl, rfl, ex_l e3 (sq_of hp), hv, q H3 (e2.trans e3)⟩
end
section
variable {P : Program} {w : World} {K : PySem.W.Frag} {mg : Str → Option Value} {base : Heap} {a : Ad}
theorem ok__law_refused (T : Txt K mg a) : Cal P w K mg base CX0 5 "_law_refused" ["_law_text"] (spRefused K) := by
  obtain ⟨f, fd, F, hm⟩ := T.d__law_refused
  refine ⟨f, fd, F.ok sc__law_refused (fun vs H Q E h => by first | (obtain ⟨_, rfl, _⟩ := h; rfl) | (obtain ⟨_, _, rfl, _⟩ := h; rfl) | (obtain ⟨_, _, _, rfl, _⟩ := h; rfl) | (obtain ⟨_, _, _, _, rfl, _⟩ := h; rfl) | (obtain ⟨_, _, _, _, _, rfl, _⟩ := h; rfl) | (obtain ⟨_, _, _, _, _, _, rfl, _⟩ := h; rfl) | (obtain ⟨_, _, _, _, _, _, _, rfl, _⟩ := h; rfl) | (obtain ⟨_, _, _, _, _, _, _, _, rfl, _⟩ := h; rfl) | (obtain ⟨_, _, _, _, _, _, _, _, _, rfl, _⟩ := h; rfl) | (obtain ⟨_, _, _, _, _, _, _, _, _, _, rfl, _⟩ := h; rfl) | (obtain ⟨_, _, _, _, _, _, _, _, _, _, _, rfl, _⟩ := h; rfl) | (obtain ⟨_, _, _, _, _, _, _, _, _, _, _, _, rfl, _⟩ := h; rfl) | (obtain ⟨_, _, _, _, _, _, _, _, _, _, _, _, _, rfl, _⟩ := h; rfl) | (obtain ⟨_, _, _, _, _, _, _, _, _, _, _, _, _, _, rfl, _⟩ := h; rfl) | (obtain ⟨_, _, _, _, _, _, _, _, _, _, _, _, _, _, _, rfl, _⟩ := h; rfl) | (obtain ⟨_, _, _, _, _, _, _, _, _, _, _, _, _, _, _, _, rfl, _⟩ := h; rfl) | (obtain ⟨_, _, _, _, _, _, _, _, _, _, _, _, _, _, _, _, _, rfl, _⟩ := h; rfl) | (obtain ⟨_, _, _, _, _, _, _, _, _, _, _, _, _, _, _, _, _, _, rfl, _⟩ := h; rfl) | (obtain ⟨_, _, _, _, _, _, _, _, _, _, _, _, _, _, _, _, _, _, _, rfl, _⟩ := h; rfl) | (obtain ⟨_, _, _, _, _, _, _, _, _, _, _, _, _, _, _, _, _, _, _, _, rfl, _⟩ := h; rfl) | (obtain ⟨_, _, _, _, _, _, _, _, _, _, _, _, _, _, _, _, _, _, _, _, _, rfl, _⟩ := h; rfl) | (obtain ⟨_, _, _, _, _, _, _, _, _, _, _, _, _, _, _, _, _, _, _, _, _, _, rfl, _⟩ := h; rfl) | (obtain ⟨_, _, _, _, _, _, _, _, _, _, _, _, _, _, _, _, _, _, _, _, _, _, _, rfl, _⟩ := h; rfl)) (fun cdv A outer s H vs Q E hr h => ?_), hm, F.kp, F.binds (ps := ["_law_text"]) fun _ _ _ _ _ _ us hl => match us, hl with | [_], _ => rfl⟩
  refine ⟨_, (pss_cons (L2N.ps_try_as (i := 1) rfl rfl sc__law_refused.nd rfl rfl ⟨rfl, by decide, .inl T.g_LampError⟩ takesN (fun W pn xe tk _ => (pss_one (ps_expr (pe_calS (okX_read (K := K) (a := a) T) (hr.mono (by decide)) (fun σ => L2N.passAt tk σ) (pa_cons (pv 0) pa_nil))))) (fun ea oe cls d pn hz hf => (pss_cons (pset 2 sc__law_refused.nd (pe_lst (pa_cons (pe_callB (call_isX K hz.zc hf) (by rfl) T.n_isinstance (by decide +kernel) (pa_cons (pv 1) (pa_cons (pe_glob (v := .ref a.BadHouse) rfl T.g_BadHouse rfl) pa_nil))) (pa_cons (pe_callB (call_isX K hz.zc hf) (by rfl) T.n_isinstance (by decide +kernel) (pa_cons (pv 1) (pa_cons (pe_glob (v := .ref a.BadLamps) rfl T.g_BadLamps rfl) pa_nil))) (pa_cons (pe_callB (call_isX K hz.zc hf) (by rfl) T.n_isinstance (by decide +kernel) (pa_cons (pv 1) (pa_cons (pe_glob (v := .ref a.BadPress) rfl T.g_BadPress rfl) pa_nil))) pa_nil)))))
    (pss_cons (ps_if (PW.pt (pw_or (pt_val (pe_callB (call_anyH K hz hf) (by rfl) T.n_any (by decide +kernel) (pa_cons (pv 2) pa_nil))) (pw_or1 (pt_val (pe_callB (call_isX K hz.zc hf) (by rfl) T.n_isinstance (by decide +kernel) (pa_cons (pv 1) (pa_cons (pe_glob (v := .ref a.NoSwitch) rfl T.g_NoSwitch rfl) pa_nil))))))) (pss_one (ps_ret pe_bl)) pss_nil)
    (pss_one (ps_ret (pe_and (pe_callB (call_isX K hz.zc hf) (by rfl) T.n_isinstance (by decide +kernel) (pa_cons (pv 1) (pa_cons (pe_glob (v := .ref a.BadText) rfl T.g_BadText rfl) pa_nil))) (pe_one (pe_callB (call_isX K hz.zc hf) (by rfl) T.n_isinstance (by decide +kernel) (pa_cons (pv 1) (pa_cons (pe_bltn (v := .ty "ValueError") rfl T.n_ValueError (by decide +kernel) rfl) pa_nil)))))))))))
    (pss_one (ps_ret pe_bl))), ?_⟩
  obtain ⟨x, rfl, hx, kk⟩ := h
  refine St.at ?_
  refine st_tryDropQ (K := K) (H := H) (ea_cons (ev_var rfl) ea_nil) fun H1 e1 => ?_
  have key : ∀ (Q' : VK) (W : XK), (∀ H2, Ex H1 H2 → W (.ref a.BadText) none H2) → spReadX K a [x] H1 Q' W := fun Q' W hW => by
    rcases hx with ⟨z, rfl, hz, hw⟩ | ⟨t, ty, kt⟩
    · exact ⟨_, rfl, .inl ⟨z, rfl, hz, (fun h => by rw [hw] at h; cases h), fun _ => hW⟩⟩
    · exact ⟨_, rfl, .inr ⟨⟨t, Sw.TyX.ex ty e1, kt⟩, hW⟩⟩
  refine key _ _ fun H2 e2 => ⟨true, ex_BadText T, fun _ ea na => ?_, fun z => nomatch z⟩
  refine St.at ?_
  have hc : ∀ (σ : L2.St) (H3 : Hp) (te : TE) (D' : Addr) (b : Bool), Ev te σ H3 (.ref ea) → PySem.W.kitOne K (.ref a.BadText) (.ref D') = some b → Ev (tCB (rIsX K (.ref a.BadText) none ea) (tCons te (tCons (tC (.ref D')) tNil))) σ H3 (.bl b) := fun σ H3 te D' b he q => ev_isX he rfl (exc_BadText T) q
  refine st_asgL (xs := [.bl false, .bl false, .bl false]) (el_lst (ea_cons (hc _ _ _ _ _ (ev_var rfl) T.q_BadText_BadHouse) (ea_cons (hc _ _ _ _ _ (ev_var rfl) T.q_BadText_BadLamps) (ea_cons (hc _ _ _ _ _ (ev_var rfl) T.q_BadText_BadPress) ea_nil))) (by show 3 ≤ 100000; decide)) fun l H3 nl e3 hl => ?_
  refine st_when (b := false) (et_to (et_or (et_B (ev_cb (ea_cons (ev_var rfl) ea_nil) (rc_any (bs := [false, false, false]) (sq_of hl)))) fun _ => et_B (hc _ _ _ _ _ (ev_var rfl) T.q_BadText_NoSwitch)) rfl) (fun z => nomatch z) fun _ => ?_
  exact st_ret (v := .bl true) (ev_to (ev_andV (hc _ _ _ _ _ (ev_var rfl) T.q_BadText_BadText) fun _ => ev_isXT (ev_var rfl) rfl (exc_BadText T) T.q_BadText_ValueError) rfl) fun H4 e4 => kk H4 (((e1.trans e2).trans e3).trans e4)
theorem ok__law_writes (T : Txt K mg a) : Cal P w K mg base CX0 1 "_law_writes" ["_law_text"] spLWrites := by
  obtain ⟨f, fd, F, hm⟩ := T.d__law_writes
  refine ⟨f, fd, F.ok sc__law_writes (fun vs H Q E h => by first | (obtain ⟨_, rfl, _⟩ := h; rfl) | (obtain ⟨_, _, rfl, _⟩ := h; rfl) | (obtain ⟨_, _, _, rfl, _⟩ := h; rfl) | (obtain ⟨_, _, _, _, rfl, _⟩ := h; rfl) | (obtain ⟨_, _, _, _, _, rfl, _⟩ := h; rfl) | (obtain ⟨_, _, _, _, _, _, rfl, _⟩ := h; rfl) | (obtain ⟨_, _, _, _, _, _, _, rfl, _⟩ := h; rfl) | (obtain ⟨_, _, _, _, _, _, _, _, rfl, _⟩ := h; rfl) | (obtain ⟨_, _, _, _, _, _, _, _, _, rfl, _⟩ := h; rfl) | (obtain ⟨_, _, _, _, _, _, _, _, _, _, rfl, _⟩ := h; rfl) | (obtain ⟨_, _, _, _, _, _, _, _, _, _, _, rfl, _⟩ := h; rfl) | (obtain ⟨_, _, _, _, _, _, _, _, _, _, _, _, rfl, _⟩ := h; rfl) | (obtain ⟨_, _, _, _, _, _, _, _, _, _, _, _, _, rfl, _⟩ := h; rfl) | (obtain ⟨_, _, _, _, _, _, _, _, _, _, _, _, _, _, rfl, _⟩ := h; rfl) | (obtain ⟨_, _, _, _, _, _, _, _, _, _, _, _, _, _, _, rfl, _⟩ := h; rfl) | (obtain ⟨_, _, _, _, _, _, _, _, _, _, _, _, _, _, _, _, rfl, _⟩ := h; rfl) | (obtain ⟨_, _, _, _, _, _, _, _, _, _, _, _, _, _, _, _, _, rfl, _⟩ := h; rfl) | (obtain ⟨_, _, _, _, _, _, _, _, _, _, _, _, _, _, _, _, _, _, rfl, _⟩ := h; rfl) | (obtain ⟨_, _, _, _, _, _, _, _, _, _, _, _, _, _, _, _, _, _, _, rfl, _⟩ := h; rfl) | (obtain ⟨_, _, _, _, _, _, _, _, _, _, _, _, _, _, _, _, _, _, _, _, rfl, _⟩ := h; rfl) | (obtain ⟨_, _, _, _, _, _, _, _, _, _, _, _, _, _, _, _, _, _, _, _, _, rfl, _⟩ := h; rfl) | (obtain ⟨_, _, _, _, _, _, _, _, _, _, _, _, _, _, _, _, _, _, _, _, _, _, rfl, _⟩ := h; rfl) | (obtain ⟨_, _, _, _, _, _, _, _, _, _, _, _, _, _, _, _, _, _, _, _, _, _, _, rfl, _⟩ := h; rfl)) (fun cdv A outer s H vs Q E hr h => ?_), hm, F.kp, F.binds (ps := ["_law_text"]) fun _ _ _ _ _ _ us hl => match us, hl with | [_], _ => rfl⟩
  refine ⟨_, (pss_cons (pset 1 sc__law_writes.nd (pe_split (pv 0) pe_str))
    (pss_cons (ps_if (PW.pt (pw_or (pt_not (pt_chain op_le op_le pe_int (pe_callB call_len_str (by rfl) T.n_len (by decide +kernel) (pa_cons (pe_ix (ix_listK K) (pv 1) pe_int (fun _ _ => rfl)) pa_nil)) pe_int)) (pw_or1 (pt_cmpR op_gt (pe_callB (call_lenK K) (by rfl) T.n_len (by decide +kernel) (pa_cons (pv 1) pa_nil)) pe_int (nomark _))))) (pss_one (ps_ret pe_bl)) pss_nil)
    (pss_cons (ps_for PassesOwn.never rfl (pi_range1 (by rfl) T.n_range (pa_cons (pe_callB (call_lenK K) (by rfl) T.n_len (by decide +kernel) (pa_cons (pv 1) pa_nil)) pa_nil)) (pgn 2 sc__law_writes.nd) (pss_cons (ps_if (pt_cmpR op_ne (pe_callB call_len_str (by rfl) T.n_len (by decide +kernel) (pa_cons (pe_ix (ix_listK K) (pv 1) (pv 2) (fun _ _ => rfl)) pa_nil)) (pe_callB call_len_str (by rfl) T.n_len (by decide +kernel) (pa_cons (pe_ix (ix_listK K) (pv 1) pe_int (fun _ _ => rfl)) pa_nil)) (nomark _)) (pss_one (ps_ret pe_bl)) pss_nil)
    (pss_one (ps_if (pt_val (pe_callB (cr_anyK K) (by rfl) T.n_any (by decide +kernel) (pa_cons (pe_lc (own := [("_law_sign", 3)]) (g := gName 3) rfl sc__law_writes.nd (pi_str (pe_ix (ix_listK K) (pv 1) (pv 2) (fun _ _ => rfl))) (blkOk_by (N := ["_law_text", "_law_rows", "_law_at", "_law_sign"]) (sc := defScope s__law_writes) (by decide +kernel)) (fun _ _ _ _ _ => (pgn 3 sc__law_writes.nd)) (fun _ _ _ _ _ => pts_nil) (fun _ _ _ _ _ => (pe_and (pe_cmpR op_ne (pv 3) pe_str (nomark _)) (pe_one (pe_or (pe_cmpR op_ne (pv 3) pe_str (nomark _)) (pe_one (pe_cmpR op_eq (pv 2) pe_int (nomark _)))))))) pa_nil))) (pss_one (ps_ret pe_bl)) pss_nil))))
    (pss_one (ps_ret pe_bl))))), ?_⟩
  obtain ⟨z, rfl, hz, kk⟩ := h
  have hne := rowsOf_ne z
  obtain ⟨hsz1, hsz2⟩ := rowsOf_sz z
  have hww : writesB z = lwR (rowsOf z) := (lw_eq hne).symm
  rw [hww] at kk
  have hhd : ((rowsOf z).headD []).length ≤ z.length := by
    cases h : rowsOf z with
    | nil => exact absurd h hne
    | cons y ys => exact hsz2 y (by rw [h]; exact List.mem_cons_self)
  refine St.at ?_
  refine st_asgL (H := H) (el_split (b := [10]) (ev_var rfl) (ev_to ev_c (congrArg V.str lit_nl)) (fun z => nomatch z) (by decide) (by omega)) fun b H1 nb e1 hb => ?_
  have hb : H1 b = some (.lst (txs (rowsOf z))) := hb
  have hr0 : ∀ (σ : L2.St) (H2 : Hp) (te : TE), Ex H1 H2 → Ev te σ H2 (.ref b) → Ev (tOp (rIxL K) te (tC (.int 0))) σ H2 (.str (S ((rowsOf z).headD []))) := fun σ H2 te e2 he => ev_op he ev_c (rv_ixL (sq_of (e2 _ _ hb)) (txs_head hne))
  have hl0 : ∀ (σ : L2.St) (H2 : Hp) (te : TE), Ex H1 H2 → Ev te σ H2 (.ref b) → Ev _ σ H2 (.int (((rowsOf z).headD []).length : Int)) := fun σ H2 te e2 he => ev_cb (ea_cons (hr0 σ H2 te e2 he) ea_nil) (rc_lenS (by omega))
  refine st_when (b := !(decide (1 ≤ ((rowsOf z).headD []).length) && (decide (((rowsOf z).headD []).length ≤ 10) && decide ((rowsOf z).length ≤ 9)))) (et_to (et_or (et_not (et_test (ev_chain ev_c (hl0 _ _ _ (Ex.refl _) (ev_var rfl)) rv_I0 ev_c rv_I0))) fun _ => et_test (ev_op (ev_cb (ea_cons (ev_var rfl) ea_nil) (rc_len (sq_of hb))) ev_c rv_I0)) ?_) (fun hh => ?_) fun hh => ?_
  · rw [txs_len]
    have e2 : decide ((1 : Int) ≤ (((rowsOf z).headD []).length : Int)) = decide (1 ≤ ((rowsOf z).headD []).length) := decide_eq_decide.mpr (by omega)
    have e3 : decide ((((rowsOf z).headD []).length : Int) ≤ 10) = decide (((rowsOf z).headD []).length ≤ 10) := decide_eq_decide.mpr (by omega)
    have e4 : decide (((rowsOf z).length : Int) > 9) = !decide ((rowsOf z).length ≤ 9) := by
      rw [← decide_not]
      exact decide_eq_decide.mpr (by omega)
    rw [e2, e3, e4]
    cases decide (1 ≤ ((rowsOf z).headD []).length) <;> cases decide (((rowsOf z).headD []).length ≤ 10) <;> cases decide ((rowsOf z).length ≤ 9) <;> rfl
  · have hw : lwR (rowsOf z) = false := by
      rw [Bool.not_eq_true'] at hh
      unfold lwR
      revert hh
      cases decide (1 ≤ ((rowsOf z).headD []).length) <;> cases decide (((rowsOf z).headD []).length ≤ 10) <;> cases decide ((rowsOf z).length ≤ 9) <;> intro hh <;> first | rfl | cases hh
    rw [hw] at kk
    exact st_ret ev_c (RetV.ex kk e1)
  rw [Bool.not_eq_false'] at hh
  refine st_forR1 (n := ((rowsOf z).length : Int)) (ea_cons (ev_to (ev_cb (ea_cons (ev_var rfl) ea_nil) (rc_len (sq_of hb))) (by rw [txs_len])) ea_nil) (by omega) (fun i σ' H' => Ex H1 H' ∧ (∀ j, j < i → rowAt (rowsOf z) j = true) ∧ ∃ v2, σ' = [some (.str (S z)), some (.ref b), v2, none]) (fun H2 e2 => ⟨e2, (fun j hj => absurd hj (Nat.not_lt_zero _)), none, rfl⟩) ?_ ?_
  · rintro i σ' H' hi ⟨e, hrows, v2, rfl⟩
    have hi' : i < (rowsOf z).length := by omega
    have hat : atI (txs (rowsOf z)) (i : Int) = some (.str (S ((rowsOf z).getD i []))) := by
      refine atI_nat ?_
      unfold txs
      rw [List.getElem?_map, List.getD_eq_getElem?_getD, List.getElem?_eq_getElem hi']
      rfl
    have hyl : ((rowsOf z).getD i []).length ≤ z.length := by
      rw [List.getD_eq_getElem?_getD, List.getElem?_eq_getElem hi']
      exact hsz2 _ (List.getElem_mem hi')
    have hrow : ∀ (σ : L2.St) (H2 : Hp) (te tb : TE), Ex H1 H2 → Ev te σ H2 (.ref b) → Ev tb σ H2 (.int (i : Int)) → Ev (tOp (rIxL K) te tb) σ H2 (.str (S ((rowsOf z).getD i []))) := fun σ H2 te tb e2 he hi => ev_op he hi (rv_ixL (sq_of (e2 _ _ hb)) hat)
    have bad : rowAt (rowsOf z) i = false → lwR (rowsOf z) = false := fun h0 => by
      unfold lwR
      have : ((List.range (rowsOf z).length).all (rowAt (rowsOf z))) = false := by
        rw [List.all_eq_false]
        exact ⟨i, List.mem_range.mpr hi', by rw [h0]; exact Bool.false_ne_true⟩
      rw [this, Bool.and_false, Bool.and_false, Bool.and_false]
    refine St.at ?_
    refine st_when (b := !decide (((rowsOf z).getD i []).length = ((rowsOf z).headD []).length)) (et_to (et_test (ev_op (ev_cb (ea_cons (hrow _ _ _ _ e (ev_var rfl) (ev_var rfl)) ea_nil) (rc_lenS (by omega))) (hl0 _ _ _ e (ev_var rfl)) rv_neI)) (by congr 1; exact decide_eq_decide.mpr (by omega))) (fun h0 => ?_) fun h0 => ?_
    · have h1 : rowAt (rowsOf z) i = false := by
        rw [Bool.not_eq_true'] at h0
        unfold rowAt
        rw [h0]
        rfl
      rw [bad h1] at kk
      exact st_ret ev_c (RetV.ex kk (e1.trans e))
    rw [Bool.not_eq_false'] at h0
    refine st_when1 (b := ((rowsOf z).getD i []).any fun c => !decide ([c] = [46]) && (!decide ([c] = [35]) || decide ((i : Int) = 0))) (et_to (et_B (ev_any (bs := ((rowsOf z).getD i []).map fun c => !decide ([c] = [46]) && (!decide ([c] = [35]) || decide ((i : Int) = 0))) ?_)) (by rw [List.any_map]; rfl)) (fun h1 => ?_) fun h1 => ?_
    · rw [List.map_map]
      refine el_signs (fun c => .bl (!decide ([c] = [46]) && (!decide ([c] = [35]) || decide ((i : Int) = 0)))) (hrow _ _ _ _ e (ev_var rfl) (ev_var rfl)) (by omega) (fun x => rfl) fun d hd H4 e4 => ?_
      exact ev_andV (ev_op (ev_var rfl) (ev_to ev_c (congrArg V.str lit_dot)) rv_neS) fun _ => ev_orV (ev_op (ev_var rfl) (ev_to ev_c (congrArg V.str lit_hash)) rv_neS) fun _ => ev_op (ev_var rfl) ev_c rv_eqI
    · have h2 : rowAt (rowsOf z) i = false := by
        unfold rowAt
        have : (((rowsOf z).getD i []).all fun c => !(!decide ([c] = [46]) && (!decide ([c] = [35]) || decide ((i : Int) = 0)))) = false := by
          rw [List.any_eq_not_all_not] at h1
          rw [Bool.not_eq_true'] at h1
          exact h1
        rw [this, Bool.and_false]
      rw [bad h2] at kk
      exact st_ret ev_c (RetV.ex kk (e1.trans e))
    · intro H2 e2
      refine ⟨e.trans e2, fun j hj => ?_, _, rfl⟩
      rcases Nat.lt_or_eq_of_le (Nat.le_of_lt_succ hj) with hj | rfl
      · exact hrows j hj
      · unfold rowAt
        rw [h0, Bool.true_and]
        rw [List.any_eq_not_all_not] at h1
        rw [Bool.not_eq_false'] at h1
        exact h1
  · rintro σ' H' ⟨e, hrows, v2, rfl⟩
    rw [Int.toNat_natCast] at hrows
    have hw : lwR (rowsOf z) = true := by
      unfold lwR
      have : ((List.range (rowsOf z).length).all (rowAt (rowsOf z))) = true := by
        rw [List.all_eq_true]
        exact fun j hj => hrows j (List.mem_range.mp hj)
      rw [this, Bool.and_true]
      exact hh
    rw [hw] at kk
    exact St.at (st_ret ev_c (RetV.ex kk (e1.trans e)))
theorem ok__law_right (T : Txt K mg a) : Cal P w K mg base CX0 6 "_law_right" ["_law_text"] spLRight := by
  obtain ⟨f, fd, F, hm⟩ := T.d__law_right
  refine ⟨f, fd, F.ok sc__law_right (fun vs H Q E h => by first | (obtain ⟨_, rfl, _⟩ := h; rfl) | (obtain ⟨_, _, rfl, _⟩ := h; rfl) | (obtain ⟨_, _, _, rfl, _⟩ := h; rfl) | (obtain ⟨_, _, _, _, rfl, _⟩ := h; rfl) | (obtain ⟨_, _, _, _, _, rfl, _⟩ := h; rfl) | (obtain ⟨_, _, _, _, _, _, rfl, _⟩ := h; rfl) | (obtain ⟨_, _, _, _, _, _, _, rfl, _⟩ := h; rfl) | (obtain ⟨_, _, _, _, _, _, _, _, rfl, _⟩ := h; rfl) | (obtain ⟨_, _, _, _, _, _, _, _, _, rfl, _⟩ := h; rfl) | (obtain ⟨_, _, _, _, _, _, _, _, _, _, rfl, _⟩ := h; rfl) | (obtain ⟨_, _, _, _, _, _, _, _, _, _, _, rfl, _⟩ := h; rfl) | (obtain ⟨_, _, _, _, _, _, _, _, _, _, _, _, rfl, _⟩ := h; rfl) | (obtain ⟨_, _, _, _, _, _, _, _, _, _, _, _, _, rfl, _⟩ := h; rfl) | (obtain ⟨_, _, _, _, _, _, _, _, _, _, _, _, _, _, rfl, _⟩ := h; rfl) | (obtain ⟨_, _, _, _, _, _, _, _, _, _, _, _, _, _, _, rfl, _⟩ := h; rfl) | (obtain ⟨_, _, _, _, _, _, _, _, _, _, _, _, _, _, _, _, rfl, _⟩ := h; rfl) | (obtain ⟨_, _, _, _, _, _, _, _, _, _, _, _, _, _, _, _, _, rfl, _⟩ := h; rfl) | (obtain ⟨_, _, _, _, _, _, _, _, _, _, _, _, _, _, _, _, _, _, rfl, _⟩ := h; rfl) | (obtain ⟨_, _, _, _, _, _, _, _, _, _, _, _, _, _, _, _, _, _, _, rfl, _⟩ := h; rfl) | (obtain ⟨_, _, _, _, _, _, _, _, _, _, _, _, _, _, _, _, _, _, _, _, rfl, _⟩ := h; rfl) | (obtain ⟨_, _, _, _, _, _, _, _, _, _, _, _, _, _, _, _, _, _, _, _, _, rfl, _⟩ := h; rfl) | (obtain ⟨_, _, _, _, _, _, _, _, _, _, _, _, _, _, _, _, _, _, _, _, _, _, rfl, _⟩ := h; rfl) | (obtain ⟨_, _, _, _, _, _, _, _, _, _, _, _, _, _, _, _, _, _, _, _, _, _, _, rfl, _⟩ := h; rfl)) (fun cdv A outer s H vs Q E hr h => ?_), hm, F.kp, F.binds (ps := ["_law_text"]) fun _ _ _ _ _ _ us hl => match us, hl with | [_], _ => rfl⟩
  refine ⟨_, (pss_cons (ps_if (pt_not (pt_val (pe_cal (ok__law_writes (K := K) (a := a) T) (hr.mono (by decide)) pass0 (pa_cons (pv 0) pa_nil)))) (pss_one (ps_ret (pe_cal (ok__law_refused (K := K) (a := a) T) (hr.mono (by decide)) pass0 (pa_cons (pv 0) pa_nil)))) pss_nil)
    (pss_one (ps_ret (pe_cmpR op_eq (pe_cal (ok_written (K := K) (a := a) T) (hr.mono (by decide)) pass0 (pa_cons (pe_cal (ok_read (K := K) (a := a) T) (hr.mono (by decide)) pass0 (pa_cons (pv 0) pa_nil)) pa_nil)) (pv 0) (nomark _))))), ?_⟩
  obtain ⟨z, rfl, hz, kk⟩ := h
  refine St.at ?_
  refine st_when (H := H) (b := !writesB z) (et_not (et_B (ev_cal (ea_cons (ev_var rfl) ea_nil) fun H1 e1 Q q => ⟨z, rfl, hz, q⟩))) (fun h0 => ?_) fun h0 => ?_
  · rw [Bool.not_eq_true'] at h0
    exact st_ret (ev_cal (ea_cons (ev_var rfl) ea_nil) fun H1 e1 Q q => ⟨_, rfl, .inl ⟨z, rfl, hz, h0⟩, q⟩) kk
  · rw [Bool.not_eq_false'] at h0
    obtain ⟨ok, ez⟩ := writes_ok h0
    refine st_ret (v := .bl true) (ev_to (ev_op (p_ev (evp_cal1 (P' := IsV (.str (S (textL (lampsOf z) (turnsOf z))))) (evp_cal (P := NewHouse K a (lampsOf z) (turnsOf z)) (ea_cons (ev_var rfl) ea_nil) fun H1 e1 Q q => ⟨_, _, by rw [ez], ok, q⟩) fun v fr H1 e1 p Q q => ?_)) (ev_var rfl) rv_eqS) (by rw [ez]; simp)) kk
    obtain ⟨h, dx, l, rfl, _, _, hh⟩ := p
    exact ⟨_, _, _, _, _, rfl, hh, fun H2 e2 => q _ (fun _ => False) H2 e2 (fun _ z => z.elim) rfl⟩
theorem ok__law_other (T : Txt K mg a) : Cal P w K mg base CX0 2 "_law_other" ["_law_text", "_law_cell", "_law_k"] spOther := by
  obtain ⟨f, fd, F, hm⟩ := T.d__law_other
  refine ⟨f, fd, F.ok sc__law_other (fun vs H Q E h => by first | (obtain ⟨_, rfl, _⟩ := h; rfl) | (obtain ⟨_, _, rfl, _⟩ := h; rfl) | (obtain ⟨_, _, _, rfl, _⟩ := h; rfl) | (obtain ⟨_, _, _, _, rfl, _⟩ := h; rfl) | (obtain ⟨_, _, _, _, _, rfl, _⟩ := h; rfl) | (obtain ⟨_, _, _, _, _, _, rfl, _⟩ := h; rfl) | (obtain ⟨_, _, _, _, _, _, _, rfl, _⟩ := h; rfl) | (obtain ⟨_, _, _, _, _, _, _, _, rfl, _⟩ := h; rfl) | (obtain ⟨_, _, _, _, _, _, _, _, _, rfl, _⟩ := h; rfl) | (obtain ⟨_, _, _, _, _, _, _, _, _, _, rfl, _⟩ := h; rfl) | (obtain ⟨_, _, _, _, _, _, _, _, _, _, _, rfl, _⟩ := h; rfl) | (obtain ⟨_, _, _, _, _, _, _, _, _, _, _, _, rfl, _⟩ := h; rfl) | (obtain ⟨_, _, _, _, _, _, _, _, _, _, _, _, _, rfl, _⟩ := h; rfl) | (obtain ⟨_, _, _, _, _, _, _, _, _, _, _, _, _, _, rfl, _⟩ := h; rfl) | (obtain ⟨_, _, _, _, _, _, _, _, _, _, _, _, _, _, _, rfl, _⟩ := h; rfl) | (obtain ⟨_, _, _, _, _, _, _, _, _, _, _, _, _, _, _, _, rfl, _⟩ := h; rfl) | (obtain ⟨_, _, _, _, _, _, _, _, _, _, _, _, _, _, _, _, _, rfl, _⟩ := h; rfl) | (obtain ⟨_, _, _, _, _, _, _, _, _, _, _, _, _, _, _, _, _, _, rfl, _⟩ := h; rfl) | (obtain ⟨_, _, _, _, _, _, _, _, _, _, _, _, _, _, _, _, _, _, _, rfl, _⟩ := h; rfl) | (obtain ⟨_, _, _, _, _, _, _, _, _, _, _, _, _, _, _, _, _, _, _, _, rfl, _⟩ := h; rfl) | (obtain ⟨_, _, _, _, _, _, _, _, _, _, _, _, _, _, _, _, _, _, _, _, _, rfl, _⟩ := h; rfl) | (obtain ⟨_, _, _, _, _, _, _, _, _, _, _, _, _, _, _, _, _, _, _, _, _, _, rfl, _⟩ := h; rfl) | (obtain ⟨_, _, _, _, _, _, _, _, _, _, _, _, _, _, _, _, _, _, _, _, _, _, _, rfl, _⟩ := h; rfl)) (fun cdv A outer s H vs Q E hr h => ?_), hm, F.kp, F.binds (ps := ["_law_text", "_law_cell", "_law_k"]) fun _ _ _ _ _ _ us hl => match us, hl with | [_, _, _], _ => rfl⟩
  refine ⟨_, (pss_cons (pset 3 sc__law_other.nd (pe_cal (ok__law_draw (K := K) (a := a) T) (hr.mono (by decide)) pass0 (pa_cons (pv 1) (pa_cons (pv 2) (pa_cons (pe_op op_add (pe_callB call_len_str (by rfl) T.n_len (by decide +kernel) (pa_cons (pv 0) pa_nil)) pe_int) pa_nil)))))
    (pss_cons (pset 4 sc__law_other.nd (pe_op op_add_str (pe_op op_add_str pe_str pe_str) pe_str))
    (pss_cons (pset 4 sc__law_other.nd (pe_ix ix_str (pv 4) (pe_cal (ok__law_draw (K := K) (a := a) T) (hr.mono (by decide)) pass0 (pa_cons (pv 1) (pa_cons (pe_op op_add (pv 2) pe_int) (pa_cons (pe_callB call_len_str (by rfl) T.n_len (by decide +kernel) (pa_cons (pv 4) pa_nil)) pa_nil)))) (fun _ _ => rfl)))
    (pss_cons (pset 5 sc__law_other.nd (pe_cal (ok__law_draw (K := K) (a := a) T) (hr.mono (by decide)) pass0 (pa_cons (pv 1) (pa_cons (pe_op op_add (pv 2) pe_int) (pa_cons pe_int pa_nil)))))
    (pss_cons (ps_if (pt_cmpR op_eq (pv 5) pe_int (nomark _)) (pss_one (ps_ret (pe_op op_add_str (pe_op op_add_str (pe_slice sl_str (pv 0) po_none (po_some (pv 3))) (pv 4)) (pe_slice sl_str (pv 0) (po_some (pv 3)) po_none)))) pss_nil)
    (pss_one (ps_ret (pe_op op_add_str (pe_op op_add_str (pe_slice sl_str (pv 0) po_none (po_some (pv 3))) (pe_ix (ix_listK K) (pe_lst (pa_cons pe_str (pa_cons (pv 4) pa_nil))) (pe_op op_sub (pv 5) pe_int) (fun _ _ => rfl))) (pe_slice sl_str (pv 0) (po_some (pe_op op_add (pv 3) pe_int)) po_none))))))))), ?_⟩
  obtain ⟨z, c, k', N, rfl, hz, hc, hN, hk, kk⟩ := h
  have l1 : (Str.ofString ".#.# *1x" : Str) = S [46, 35, 46, 35, 32, 42, 49, 120] := by decide +kernel
  have l2 : (Str.ofString "\t\n" : Str) = S [9, 10] := by decide +kernel
  have l3 : (Str.ofString "\n0" : Str) = S [10, 48] := by decide +kernel
  refine St.at ?_
  refine st_asg (H := H) (ev_draw (m := z.length + 1) (ea_cons (ev_var rfl) (ea_cons (ev_var rfl) (ea_cons (ev_to (ev_op (ev_cb (ea_cons (ev_var rfl) ea_nil) (rc_lenS (by omega))) ev_c rv_I0) (by congr 1)) ea_nil))) hc hN (by omega) (by omega)) ?_
  have h1 := dr_lt c k' (m := z.length + 1) (by omega)
  refine st_asg (v := .str (S sgs)) (ev_to (ev_op (ev_op (ev_to ev_c (congrArg V.str l1)) (ev_to ev_c (congrArg V.str l2)) (rv_catS (by decide))) (ev_to ev_c (congrArg V.str l3)) (rv_catS (by decide))) (by decide +kernel)) ?_
  have h2 := dr_lt c (k' + 3) (m := 12) (by omega)
  have hs : sgs[dr c (k' + 3) 12]? = some (sgs.getD (dr c (k' + 3) 12) 0) := by rw [List.getD_eq_getElem?_getD, List.getElem?_eq_getElem (show dr c (k' + 3) 12 < sgs.length from h2)]; rfl
  refine st_asg (v := .str (S [sgs.getD (dr c (k' + 3) 12) 0])) (ev_op (ev_var rfl) (ev_draw (m := 12) (k := k' + 3) (ea_cons (ev_var rfl) (ea_cons (ev_to (ev_op (ev_var rfl) ev_c rv_I0) (by congr 1)) (ea_cons (ev_cb (ea_cons (ev_var rfl) ea_nil) (rc_lenS (a := sgs) (by decide))) ea_nil))) hc hN (by omega) (by omega)) (rv_ixS (by decide) hs)) ?_
  refine st_asg (ev_draw (m := 3) (k := k' + 5) (ea_cons (ev_var rfl) (ea_cons (ev_to (ev_op (ev_var rfl) ev_c rv_I0) (by congr 1)) (ea_cons (ev_to ev_c rfl) ea_nil))) hc hN (by omega) (by omega)) ?_
  have h3 := dr_lt c (k' + 5) (m := 3) (by omega)
  have b1 := cut_len (S z) none (some (dr c k' (z.length + 1) : Int))
  have b2 := cut_len (S z) (some (dr c k' (z.length + 1) : Int)) none
  have b3 := cut_len (S z) (some ((dr c k' (z.length + 1) : Int) + 1)) none
  rw [S_len z] at b1 b2 b3
  have hz' : (S z).length ≤ 100000 := by rw [S_len z]; omega
  have lo : ∀ y : List Nat, y.length ≤ 1 → (cutS (S z) none (some (dr c k' (z.length + 1) : Int))).length + (S y).length ≤ 100000 := fun y hy => by rw [S_len y]; omega
  refine st_when (b := decide (dr c (k' + 5) 3 = 0)) (et_to (et_test (ev_op (ev_var rfl) ev_c rv_eqI)) (decide_eq_decide.mpr (by omega))) (fun h0 => ?_) fun h0 => ?_
  · have h0 := of_decide_eq_true h0
    have e0 : otherS z c k' = cutS (S z) none (some (dr c k' (z.length + 1) : Int)) ++ S [sgs.getD (dr c (k' + 3) 12) 0] ++ cutS (S z) (some (dr c k' (z.length + 1) : Int)) none := if_pos h0
    rw [e0] at kk
    refine st_ret (ev_op (ev_op (ev_slS (ev_var rfl) eo_none (eo_some (ev_var rfl)) hz') (ev_var rfl) (rv_catS (lo _ (by simp)))) (ev_slS (ev_var rfl) (eo_some (ev_var rfl)) eo_none hz') (rv_catS ?_)) kk
    rw [cat_len, S_len [_], List.length_singleton]
    omega
  · have h0 := of_decide_eq_false h0
    have e0 : otherS z c k' = cutS (S z) none (some (dr c k' (z.length + 1) : Int)) ++ (if dr c (k' + 5) 3 = 1 then S [] else S [sgs.getD (dr c (k' + 3) 12) 0]) ++ cutS (S z) (some ((dr c k' (z.length + 1) : Int) + 1)) none := if_neg h0
    rw [e0] at kk
    have hm : (if dr c (k' + 5) 3 = 1 then S [] else S [sgs.getD (dr c (k' + 3) 12) 0]).length ≤ 1 := by
      split
      · rw [S_len]; exact Nat.zero_le _
      · rw [S_len]; exact Nat.le_refl _
    refine st_ret (ev_op (ev_op (ev_slS (ev_var rfl) eo_none (eo_some (ev_var rfl)) hz') (ev_ixLn (xs := [.str (S []), .str (S [sgs.getD (dr c (k' + 3) 12) 0])]) (i := (dr c (k' + 5) 3 : Int) - 1) (el_lst (ea_cons (ev_to ev_c (congrArg V.str lit_nil)) (ea_cons (ev_var rfl) ea_nil)) (by show 2 ≤ 100000; decide)) (ev_op (ev_var rfl) ev_c rv_I0) ?_) (rv_catS ?_)) (ev_slS (ev_var rfl) (eo_some (ev_op (ev_var rfl) ev_c rv_I0)) eo_none hz') (rv_catS ?_)) kk
    · have hw : dr c (k' + 5) 3 = 1 ∨ dr c (k' + 5) 3 = 2 := by omega
      rcases hw with hw | hw
      · rw [hw, if_pos rfl]
        rfl
      · rw [hw, if_neg (by decide)]
        rfl
    · omega
    · rw [cat_len]
      omega
end
end Sw

/-! Law 8. -/
namespace Sw
open PySem PySem.Spec PyProof.Rows L2 Evl SX
def isTb : V → Bool
  | .str z => decide (z.length ≤ 2000)
  | _ => false
theorem isTb_some {x : V} (h : isTb x = true) : ∃ w : List Nat, x = .str (S w) ∧ w.length ≤ 10000 := by
  cases x with
  | str z =>
    have h := of_decide_eq_true h
    exact ⟨z.cps.toList, by rw [S_tl], by have e : z.cps.toList.length = z.length := Array.length_toList; omega⟩
  | _ => cases h
section
variable {K : PySem.W.Frag} {σ : L2.St} {H H' : Hp} {te ta tb tc : TE} {P P' P1 P2 : RP}
theorem el_catLL {xs ys : List V} (ha : EvL ta σ H xs) (hb : ∀ H1, Ex H H1 → EvL tb σ H1 ys) (hz : xs.length + ys.length ≤ 100000) : EvL (tOp rCat ta tb) σ H (xs ++ ys) := fun H1 e Q q =>
  ha H1 e _ fun l H2 n e2 l2 => hb H2 (e.trans e2) H2 (Ex.refl _) _ fun b H3 n3 e3 l3 => ⟨l, b, xs, ys, rfl, rfl, e3 _ _ l2, l3, sz_of hz, fun p hp => q p _ (fresh_back (e2.trans e3) hp) ((e2.trans e3).trans (Ex.new hp)) upd_same⟩
/-- [x] * n -/
theorem el_rep1 {x : V} {n : Nat} (ha : Ev ta σ H x) (hb : ∀ H1, Ex H H1 → Ev tb σ H1 (.int (n : Int))) (hz : n ≤ 100000) : EvL (tOp rRep (tLst (tCons ta tNil)) tb) σ H (List.replicate n x) := fun H1 e Q q =>
  el_lst (ea_cons ha ea_nil) (by show 1 ≤ 100000; decide) H1 e _ fun l H2 nl e2 hl => hb H2 (e.trans e2) H2 (Ex.refl _) _ fun H3 e3 => by
    refine ⟨l, (n : Int), [x], rfl, rfl, e3 _ _ hl, by omega, by omega, ?_, fun p hp => ?_⟩
    · show 1 * _ ≤ _
      rw [Int.toNat_natCast, Nat.one_mul]
      exact sz_of hz
    · refine q p _ (fresh_back (e2.trans e3) hp) ((e2.trans e3).trans (Ex.new hp)) ?_
      rw [upd_same]
      simp [Int.toNat_natCast]
theorem el_bindLc {xs : List V} {g : TG} {tl : TE} {tt : TT} {vs : List Nat} (h : EvP tl σ H P) (k : ∀ v fr H1, Ex H H1 → P v fr H1 → EvL (tLc (iList K (fun _ H Q => Q v H)) g tt te vs) σ H1 xs) : EvL (tLc (iList K tl) g tt te vs) σ H xs := fun H1 e Q q =>
  h H1 e _ fun v fr H2 e2 f p => k v fr H2 (e.trans e2) p H2 (Ex.refl _) Q fun b H3 n e3 l => q b H3 (fresh_back e2 n) (e2.trans e3) l
end
section
variable {P : Program} {w : World} {K : PySem.W.Frag} {mg : Str → Option Value} {base : Heap} {a : Ad}
theorem ev_writtenP {σ : L2.St} {H : Hp} {E : XK} {te : TE} {L : Nat} {ts : List Nat} (hv : EvP te σ H (fun v fr H2 => ∃ h dx l, v = .ref h ∧ fr h ∧ fr l ∧ HouseAt K a H2 h L ts dx l)) : Ev (tCall (spWritten K a) [] E (tCons te tNil)) σ H (.str (S (textL L ts))) :=
  p_ev (evp_cal1 hv fun v fr H1 e p Q q => by
    obtain ⟨h, dx, l, rfl, _, _, hh⟩ := p
    exact ⟨_, _, _, _, _, rfl, hh, fun H2 e2 => q _ (fun _ => False) H2 e2 (fun _ z => z.elim) rfl⟩)
theorem fn_law {f : Addr} {fd : FuncData} (F : Fun K "law" "law" s_law f fd) (T : Txt K mg a) : FnOk P w K mg base CX0 7 f fd ["_law_script"] (spLaw K) := by
  refine F.ok sc_law (fun vs H Q E h => by first | (obtain ⟨_, rfl, _⟩ := h; rfl) | (obtain ⟨_, _, rfl, _⟩ := h; rfl) | (obtain ⟨_, _, _, rfl, _⟩ := h; rfl) | (obtain ⟨_, _, _, _, rfl, _⟩ := h; rfl) | (obtain ⟨_, _, _, _, _, rfl, _⟩ := h; rfl) | (obtain ⟨_, _, _, _, _, _, rfl, _⟩ := h; rfl) | (obtain ⟨_, _, _, _, _, _, _, rfl, _⟩ := h; rfl) | (obtain ⟨_, _, _, _, _, _, _, _, rfl, _⟩ := h; rfl) | (obtain ⟨_, _, _, _, _, _, _, _, _, rfl, _⟩ := h; rfl) | (obtain ⟨_, _, _, _, _, _, _, _, _, _, rfl, _⟩ := h; rfl) | (obtain ⟨_, _, _, _, _, _, _, _, _, _, _, rfl, _⟩ := h; rfl) | (obtain ⟨_, _, _, _, _, _, _, _, _, _, _, _, rfl, _⟩ := h; rfl) | (obtain ⟨_, _, _, _, _, _, _, _, _, _, _, _, _, rfl, _⟩ := h; rfl) | (obtain ⟨_, _, _, _, _, _, _, _, _, _, _, _, _, _, rfl, _⟩ := h; rfl) | (obtain ⟨_, _, _, _, _, _, _, _, _, _, _, _, _, _, _, rfl, _⟩ := h; rfl) | (obtain ⟨_, _, _, _, _, _, _, _, _, _, _, _, _, _, _, _, rfl, _⟩ := h; rfl) | (obtain ⟨_, _, _, _, _, _, _, _, _, _, _, _, _, _, _, _, _, rfl, _⟩ := h; rfl) | (obtain ⟨_, _, _, _, _, _, _, _, _, _, _, _, _, _, _, _, _, _, rfl, _⟩ := h; rfl) | (obtain ⟨_, _, _, _, _, _, _, _, _, _, _, _, _, _, _, _, _, _, _, rfl, _⟩ := h; rfl) | (obtain ⟨_, _, _, _, _, _, _, _, _, _, _, _, _, _, _, _, _, _, _, _, rfl, _⟩ := h; rfl) | (obtain ⟨_, _, _, _, _, _, _, _, _, _, _, _, _, _, _, _, _, _, _, _, _, rfl, _⟩ := h; rfl) | (obtain ⟨_, _, _, _, _, _, _, _, _, _, _, _, _, _, _, _, _, _, _, _, _, _, rfl, _⟩ := h; rfl) | (obtain ⟨_, _, _, _, _, _, _, _, _, _, _, _, _, _, _, _, _, _, _, _, _, _, _, rfl, _⟩ := h; rfl)) (fun cdv A outer s H vs Q E hr h => ?_)
  refine ⟨_, (pss_cons (pset 1 sc_law.nd (pe_cal (ok__law_told (K := K) (a := a) T) (hr.mono (by decide)) pass0 (pa_cons (pv 0) (pa_cons pe_int pa_nil))))
    (pss_cons (pset 2 sc_law.nd (pe_cal (ok_written (K := K) (a := a) T) (hr.mono (by decide)) pass0 (pa_cons (pe_calK (ok_House_init (K := K) (a := a) T) (hr.mono (by decide)) pass0 (pa_cons (pe_ix (ix_tupK K) (pv 1) pe_int (fun _ _ => rfl)) (pa_cons (pe_ix (ix_tupK K) (pv 1) pe_int (fun _ _ => rfl)) pa_nil))) pa_nil)))
    (pss_cons (pset 3 sc_law.nd (pe_cal (ok__law_cell_at (K := K) (a := a) T) (hr.mono (by decide)) pass0 (pa_cons (pv 0) (pa_cons pe_int pa_nil))))
    (pss_cons (pset 4 sc_law.nd (pe_lst (pa_cons pe_str (pa_cons pe_str (pa_cons pe_str (pa_cons pe_str (pa_cons pe_str (pa_cons pe_str (pa_cons pe_str (pa_cons pe_str (pa_cons pe_str (pa_cons pe_str (pa_cons pe_str (pa_cons pe_str (pa_cons pe_str pa_nil)))))))))))))))
    (pss_cons (pset 4 sc_law.nd (pe_op op_cat (pv 4) (pe_lst (pa_cons (pe_op op_repS pe_str pe_int) (pa_cons (pe_op op_repS pe_str pe_int) (pa_cons (pe_op op_add_str (pe_op op_add_str (pe_op op_repS pe_str pe_int) pe_str) (pe_op op_repS pe_str pe_int)) (pa_cons (pe_join pe_str (pe_op op_rep (pe_lst (pa_cons pe_str pa_nil)) pe_int)) (pa_cons (pe_join pe_str (pe_op op_rep (pe_lst (pa_cons pe_str pa_nil)) pe_int)) (pa_cons pe_str pa_nil)))))))))
    (pss_cons (pset 4 sc_law.nd (pe_op op_cat (pv 4) (pe_lst (pa_cons pe_str (pa_cons pe_str (pa_cons pe_str (pa_cons pe_str (pa_cons pe_str (pa_cons pe_str (pa_cons pe_str (pa_cons pe_str pa_nil)))))))))))
    (pss_cons (pset 4 sc_law.nd (pe_op op_cat (pv 4) (pe_lst (pa_cons pe_str (pa_cons pe_str (pa_cons pe_str pa_nil))))))
    (pss_cons (ps_for PassesOwn.never rfl (pi_listK K (pe_op op_cat (pe_op op_cat (pv 4) (pe_lst (pa_cons (pv 2) pa_nil))) (pe_lc (own := [("_law_k", 6)]) (g := gName 6) rfl sc_law.nd (pi_range1 (by rfl) T.n_range (pa_cons pe_int pa_nil)) (blkOk_by (N := ["_law_script", "_law_told_here", "_law_text", "_law_cell", "_law_few", "_law_other_here", "_law_k", "_law_thing"]) (sc := defScope s_law) (by decide +kernel)) (fun _ _ _ _ _ => (pgn 6 sc_law.nd)) (fun _ _ _ _ _ => pts_nil) (fun _ _ _ _ _ => (pe_cal (ok__law_other (K := K) (a := a) T) (hr.mono (by decide)) pass0 (pa_cons (pv 2) (pa_cons (pe_op op_add (pv 3) (pe_op op_mulX pe_int (pv 6))) (pa_cons (pv 6) pa_nil)))))))) (pgn 5 sc_law.nd) (pss_one (ps_if (pt_not (pt_val (pe_cal (ok__law_right (K := K) (a := a) T) (hr.mono (by decide)) pass0 (pa_cons (pv 5) pa_nil)))) (pss_one (ps_ret pe_bl)) pss_nil)))
    (pss_one (ps_ret (pe_callB (cr_allK K) (by rfl) T.n_all (by decide +kernel) (pa_cons (pe_lc (own := [("_law_thing", 7)]) (g := gName 7) rfl sc_law.nd (pi_listK K (pe_lst (pa_cons pe_non (pa_cons pe_int (pa_cons (pe_lst (pa_cons pe_str pa_nil)) (pa_cons pe_bl pa_nil)))))) (blkOk_by (N := ["_law_script", "_law_told_here", "_law_text", "_law_cell", "_law_few", "_law_other_here", "_law_k", "_law_thing"]) (sc := defScope s_law) (by decide +kernel)) (fun _ _ _ _ _ => (pgn 7 sc_law.nd)) (fun _ _ _ _ _ => pts_nil) (fun _ _ _ _ _ => (pe_cal (ok__law_refused (K := K) (a := a) T) (hr.mono (by decide)) pass0 (pa_cons (pv 7) pa_nil)))) pa_nil)))))))))))), ?_⟩
  obtain ⟨s, ns, rfl, hs, hlen, hb, k⟩ := h
  have hdot : ∀ (σ : L2.St) (H : Hp), Ev (tC (.str ".")) σ H (.str (S [46])) := fun σ H => ev_to ev_c (congrArg V.str lit_dot)
  have hhash : ∀ (σ : L2.St) (H : Hp), Ev (tC (.str "#")) σ H (.str (S [35])) := fun σ H => ev_to ev_c (congrArg V.str lit_hash)
  have hnl : ∀ (σ : L2.St) (H : Hp), Ev (tC (.str "\n")) σ H (.str (S [10])) := fun σ H => ev_to ev_c (congrArg V.str lit_nl)
  refine St.at ?_
  refine st_asgP (H := H) (evp_told (k := 0) (ea_cons (ev_var rfl) (ea_cons (ev_to ev_c rfl) ea_nil)) hs hb) fun v1 fr1 H1 e1 f1 p1 => ?_
  obtain ⟨p, L, ts, l, rfl, fp, fl, ht⟩ := p1
  have htl := text_len ht.ok
  refine st_asg (ev_writtenP (evp_house (s := l) (ea_cons (ev_told0 ht (ev_var rfl)) (ea_cons (ev_told1 ht (ev_var rfl)) ea_nil)) (.of ht.lst) ht.ok)) ?_
  refine st_asgP (evp_cell (k := 2) (ea_cons (ev_var rfl) (ea_cons (ev_to ev_c rfl) ea_nil)) (ex_l e1 hs) hb) fun v3 fr3 H3 e3 f3 p3 => ?_
  obtain ⟨c, rfl, hc⟩ := p3
  refine st_asgL (el_lst (ea_cons ev_c (ea_cons ev_c (ea_cons ev_c (ea_cons ev_c (ea_cons ev_c (ea_cons ev_c (ea_cons ev_c (ea_cons ev_c (ea_cons ev_c (ea_cons ev_c (ea_cons ev_c (ea_cons ev_c (ea_cons ev_c ea_nil))))))))))))) (by show 13 ≤ 100000; decide)) fun b4 H4 n4 e4 h4 => ?_
  refine st_asgL (el_catN (ev_var rfl) (el_lst (ea_cons (ev_repS (n := 10) (hdot _ _) (ev_to ev_c rfl) (by decide) (by decide) (by decide)) (ea_cons (ev_repS (n := 11) (hdot _ _) (ev_to ev_c rfl) (by decide) (by decide) (by decide))
    (ea_cons (ev_op (ev_op (ev_repS (n := 10) (hdot _ _) (ev_to ev_c rfl) (by decide) (by decide) (by decide)) (hnl _ _) (rv_catS (by decide))) (ev_repS (n := 10) (hhash _ _) (ev_to ev_c rfl) (by decide) (by decide) (by decide)) (rv_catS (by decide)))
    (ea_cons (ev_joinL (ys := List.replicate 9 [46]) (hnl _ _) (el_rep1 (n := 9) (hdot _ _) (fun H9 e9 => ev_to ev_c rfl) (by decide)) (by decide)) (ea_cons (ev_joinL (ys := List.replicate 10 [46]) (hnl _ _) (el_rep1 (n := 10) (hdot _ _) (fun H9 e9 => ev_to ev_c rfl) (by decide)) (by decide)) (ea_cons ev_c ea_nil)))))) (by show 6 ≤ 100000; decide)) h4 (by show 13 + 6 ≤ 100000; decide)) fun b5 H5 n5 e5 h5 => ?_
  refine st_asgL (el_catN (ev_var rfl) (el_lst (ea_cons ev_c (ea_cons ev_c (ea_cons ev_c (ea_cons ev_c (ea_cons ev_c (ea_cons ev_c (ea_cons ev_c (ea_cons ev_c ea_nil)))))))) (by show 8 ≤ 100000; decide)) h5 (by show 19 + 8 ≤ 100000; decide)) fun b6 H6 n6 e6 h6 => ?_
  refine st_asgL (el_catN (ev_var rfl) (el_lst (ea_cons ev_c (ea_cons ev_c (ea_cons ev_c ea_nil))) (by show 3 ≤ 100000; decide)) h6 (by show 27 + 3 ≤ 100000; decide)) fun b7 H7 n7 e7 h7 => ?_
  have hall : ∀ xs : List V, H7 b7 = some (.lst xs) → (xs.all isTb = true ∧ xs.length = 30) := fun xs hx => by
    rw [h7] at hx
    have hx := HO.lst.inj (Option.some.inj hx)
    rw [← hx]
    exact ⟨by decide +kernel, rfl⟩
  obtain ⟨xs7, hx7⟩ : ∃ xs, H7 b7 = some (.lst xs) := ⟨_, h7⟩
  obtain ⟨ha7, hl7⟩ := hall xs7 hx7
  clear hall h7 h6 h5 h4
  refine st_bindForF (el_p (el_catLL (el_catN (ev_var rfl) (el_lst (ea_cons (ev_var rfl) ea_nil) (by show 1 ≤ 100000; decide)) hx7 (by show xs7.length + 1 ≤ 100000; omega)) (ys := ((List.range 3).filter fun _ => true).map fun j : Nat => V.str (otherS (textL L ts) (c + 31 * (j : Int)) j)) (fun H8 e8 => ?_) ?_)) fun v fr H9 e9 f9 p9 => ?_
  · refine el_rng (n := 3) (fun _ => true) (fun j : Nat => .str (otherS (textL L ts) (c + 31 * (j : Int)) j)) (ea_cons (ev_to ev_c rfl) ea_nil) (by decide) (fun x => rfl) (fun _ _ _ _ => et_yes) fun j hj _ H9 e9 => ?_
    exact ev_cal (ea_cons (ev_var rfl) (ea_cons (ev_op (ev_var rfl) (ev_mulx ev_c (ev_var rfl) ((Sm.lit (N := 20) (by decide) (by decide)).mul (by omega) (by decide))) rv_I0) (ea_cons (ev_var rfl) ea_nil))) fun H10 e10 Q q => ⟨_, _, j, 1048577, rfl, by omega, hc.add (Sm.lit (by omega) (by decide)), by decide, by omega, q⟩
  · rw [List.filter_eq_self.mpr (fun _ _ => rfl), List.length_map, List.length_range, List.length_append]
    show xs7.length + 1 + 3 ≤ 100000
    omega
  obtain ⟨d, rfl, fd', hd⟩ := p9
  have hT : ∀ x ∈ (xs7 ++ [V.str (S (textL L ts))]) ++ ((List.range 3).filter fun _ => true).map fun j : Nat => V.str (otherS (textL L ts) (c + 31 * (j : Int)) j), isTb x = true := by
    intro x hx
    rcases List.mem_append.mp hx with hx | hx
    · rcases List.mem_append.mp hx with hx | hx
      · exact List.all_eq_true.mp ha7 x hx
      · rw [List.mem_singleton.mp hx]
        exact decide_eq_true (by rw [S_len]; omega)
    · obtain ⟨j, _, rfl⟩ := List.mem_map.mp hx
      exact decide_eq_true (by have := other_len (textL L ts) (c + 31 * (j : Int)) j; omega)
  generalize (xs7 ++ [V.str (S (textL L ts))]) ++ ((List.range 3).filter fun _ => true).map (fun j : Nat => V.str (otherS (textL L ts) (c + 31 * (j : Int)) j)) = ys at hd hT
  refine st_forLn (H := H9) ev_it (sq_of hd) (fun i σ' H' => Ex H9 H' ∧ ∃ v5, σ' = [some (.ref s), some (.ref p), some (.str (S (textL L ts))), some (.int c), some (.ref b7), v5, none, none]) (fun H10 e10 => ⟨e10, none, rfl⟩) (fun i σ' H' q => sq_of (q.1 _ _ hd)) ?_ ?_
  · rintro i x σ' H' hx ⟨e, v5, rfl⟩
    obtain ⟨z, rfl, hz⟩ := isTb_some (hT x (List.mem_of_getElem? hx))
    exact St.at (st_when1 (b := false) (et_to (et_not (et_B (ev_cal (ea_cons (ev_var rfl) ea_nil) fun H10 e10 Q q => ⟨z, rfl, hz, q⟩))) rfl) (fun z => nomatch z) fun _ H10 e10 => ⟨e.trans e10, _, rfl⟩)
  rintro σ' H' ⟨e, v5, rfl⟩
  refine St.at (st_ret (v := .bl true) (ev_to (ev_all (bs := [true, true, true, true]) (el_bindLc (P := fun v _ H2 => ∃ p q : Addr, v = .ref q ∧ H2 q = some (.lst [.non, .int 3, .ref p, .bl true]) ∧ ∃ xs, H2 p = some (.lst xs)) (fun H1 e1 Q q => ?_) fun v fr H8 e8 p8 => ?_)) rfl) fun H8 e8 => k H8)
  · refine ⟨sz_of (by show 1 ≤ 100000; decide), fun p hp => ⟨sz_of (by show 4 ≤ 100000; decide), fun q' hq' => ?_⟩⟩
    have hne : p ≠ q' := fun z => by rw [z, upd_same] at hq'; cases hq'
    refine q _ (fun b => b = p ∨ b = q') _ ((Ex.new hp).trans (Ex.new hq')) (fun b hb => ?_) ⟨p, q', rfl, upd_same, _, by rw [upd_ne hne]; exact upd_same⟩
    rcases hb with rfl | rfl
    · exact hp
    · exact fresh_back (Ex.new hp) hq'
  · obtain ⟨p', q', rfl, hq', xs, hp'⟩ := p8
    refine el_map (xs := [.non, .int 3, .ref p', .bl true]) (fun _ => .bl true) ev_it (sq_of hq') (by show 4 ≤ 40000; decide) (fun x => rfl) fun x hx H10 e10 => ?_
    refine ev_cal (ea_cons (ev_var rfl) ea_nil) fun H11 e11 Q q => ⟨x, rfl, .inr ?_, q⟩
    simp only [List.mem_cons, List.not_mem_nil, or_false] at hx
    rcases hx with rfl | rfl | rfl | rfl
    · exact ⟨_, .base .non, kit_NoneType_str⟩
    · exact ⟨_, .base (.int _), kit_int_str⟩
    · exact ⟨_, .base (.lst (e11 _ _ (e10 _ _ hp'))), kit_list_str⟩
    · exact ⟨_, .base (.bl _), kit_bool_str⟩
end
end Sw

namespace Sw
open PySem PySem.Spec PyProof.Rows L2 Evl
theorem all_mk {l : PySem.W.OpenLaw} {w : World} {K : PySem.W.Frag} {h : Heap} {mg : Str → Option Value} {fa : Addr} (X : K.In h) (G : h.Ns mainGlobals mg) (hfa : mg "law" = some (.ref fa)) {z_LampError z_BadHouse z_BadLamps z_BadPress z_NoSwitch z_BadText z_House f_within f_House_init f_House_switches f_written f_read f__law_cell_at f__law_draw f__law_told f__law_refused f__law_writes f__law_right f__law_other f_law : Addr}
    {t_LAMPS : Tok}
    {t_SWITCHES : Tok}
    {oc_within kV_within dc_within pm_within cd_within ct_within : Value} {od_within an_within : Option Addr} {sl_within : Array (Option Value)}
    {oc_House_init kV_House_init dc_House_init pm_House_init cd_House_init ct_House_init : Value} {od_House_init an_House_init : Option Addr} {sl_House_init : Array (Option Value)}
    {oc_House_switches kV_House_switches dc_House_switches pm_House_switches cd_House_switches ct_House_switches : Value} {od_House_switches an_House_switches : Option Addr} {sl_House_switches : Array (Option Value)}
    {oc_written kV_written dc_written pm_written cd_written ct_written : Value} {od_written an_written : Option Addr} {sl_written : Array (Option Value)}
    {oc_read kV_read dc_read pm_read cd_read ct_read : Value} {od_read an_read : Option Addr} {sl_read : Array (Option Value)}
    {oc__law_cell_at kV__law_cell_at dc__law_cell_at pm__law_cell_at cd__law_cell_at ct__law_cell_at : Value} {od__law_cell_at an__law_cell_at : Option Addr} {sl__law_cell_at : Array (Option Value)}
    {oc__law_draw kV__law_draw dc__law_draw pm__law_draw cd__law_draw ct__law_draw : Value} {od__law_draw an__law_draw : Option Addr} {sl__law_draw : Array (Option Value)}
    {oc__law_told kV__law_told dc__law_told pm__law_told cd__law_told ct__law_told : Value} {od__law_told an__law_told : Option Addr} {sl__law_told : Array (Option Value)}
    {oc__law_refused kV__law_refused dc__law_refused pm__law_refused cd__law_refused ct__law_refused : Value} {od__law_refused an__law_refused : Option Addr} {sl__law_refused : Array (Option Value)}
    {oc__law_writes kV__law_writes dc__law_writes pm__law_writes cd__law_writes ct__law_writes : Value} {od__law_writes an__law_writes : Option Addr} {sl__law_writes : Array (Option Value)}
    {oc__law_right kV__law_right dc__law_right pm__law_right cd__law_right ct__law_right : Value} {od__law_right an__law_right : Option Addr} {sl__law_right : Array (Option Value)}
    {oc__law_other kV__law_other dc__law_other pm__law_other cd__law_other ct__law_other : Value} {od__law_other an__law_other : Option Addr} {sl__law_other : Array (Option Value)}
    {oc_law kV_law dc_law pm_law cd_law ct_law : Value} {od_law an_law : Option Addr} {sl_law : Array (Option Value)}
    (g_LAMPS : PySem.W.nsIn K mainGlobals "LAMPS" = some (some (.int 10 t_LAMPS)))
    (g_SWITCHES : PySem.W.nsIn K mainGlobals "SWITCHES" = some (some (.int 8 t_SWITCHES)))
    (n_ValueError : PySem.W.nsIn K mainGlobals "ValueError" = some none)
    (n_all : PySem.W.nsIn K mainGlobals "all" = some none)
    (n_any : PySem.W.nsIn K mainGlobals "any" = some none)
    (n_bool : PySem.W.nsIn K mainGlobals "bool" = some none)
    (n_int : PySem.W.nsIn K mainGlobals "int" = some none)
    (n_isinstance : PySem.W.nsIn K mainGlobals "isinstance" = some none)
    (n_len : PySem.W.nsIn K mainGlobals "len" = some none)
    (n_list : PySem.W.nsIn K mainGlobals "list" = some none)
    (n_range : PySem.W.nsIn K mainGlobals "range" = some none)
    (n_str : PySem.W.nsIn K mainGlobals "str" = some none)
    (n_sum : PySem.W.nsIn K mainGlobals "sum" = some none)
    (g_LampError : PySem.W.nsIn K mainGlobals "LampError" = some (some (.ref z_LampError)))
    (g_BadHouse : PySem.W.nsIn K mainGlobals "BadHouse" = some (some (.ref z_BadHouse)))
    (g_BadLamps : PySem.W.nsIn K mainGlobals "BadLamps" = some (some (.ref z_BadLamps)))
    (g_BadPress : PySem.W.nsIn K mainGlobals "BadPress" = some (some (.ref z_BadPress)))
    (g_NoSwitch : PySem.W.nsIn K mainGlobals "NoSwitch" = some (some (.ref z_NoSwitch)))
    (g_BadText : PySem.W.nsIn K mainGlobals "BadText" = some (some (.ref z_BadText)))
    (g_House : PySem.W.nsIn K mainGlobals "House" = some (some (.ref z_House)))
    (pg_House : PySem.W.plainGet K z_House Str.empty = true)
    (hd_House : PySem.W.hasDictIn K z_House = true)
    (po_House : PySem.W.plainOver K z_House = true)
    (sa_House : PySem.W.findIn K (.ref z_House) "__setattr__" = some (some (.builtin "object.__setattr__")))
    (mk_House : PySem.W.makesIn K z_House = true)
    (kc_House : PySem.W.keepIn K (.ref z_House) = true)
    (a_House_lamps : PySem.W.findIn K (.ref z_House) "lamps" = some none)
    (a_House_turns : PySem.W.findIn K (.ref z_House) "turns" = some none)
    (m_within : PySem.W.nsIn K mainGlobals "within" = some (some (.ref f_within)))
    (l_within : K.lookup f_within = some ⟨oc_within, od_within, .func (PySem.W.fnOf "within" "within" (defArgs s_within) (defBody s_within) (defScope s_within) .none kV_within dc_within pm_within an_within cd_within ct_within), sl_within⟩)
    (c_within : PySem.W.codeIn K cd_within "within" = true)
    (k_within : PySem.W.keepIn K (.ref f_within) = true)
    (m_House_init : PySem.W.findIn K (.ref z_House) "__init__" = some (some (.ref f_House_init)))
    (i_House_init : PySem.W.isFn K (.ref f_House_init) = true)
    (l_House_init : K.lookup f_House_init = some ⟨oc_House_init, od_House_init, .func (PySem.W.fnOf "__init__" "House.__init__" (defArgs s_House_init) (defBody s_House_init) (defScope s_House_init) .none kV_House_init dc_House_init pm_House_init an_House_init cd_House_init ct_House_init), sl_House_init⟩)
    (c_House_init : PySem.W.codeIn K cd_House_init "House.__init__" = true)
    (k_House_init : PySem.W.keepIn K (.ref f_House_init) = true)
    (m_House_switches : PySem.W.findIn K (.ref z_House) "switches" = some (some (.ref f_House_switches)))
    (i_House_switches : PySem.W.isFn K (.ref f_House_switches) = true)
    (l_House_switches : K.lookup f_House_switches = some ⟨oc_House_switches, od_House_switches, .func (PySem.W.fnOf "switches" "House.switches" (defArgs s_House_switches) (defBody s_House_switches) (defScope s_House_switches) .none kV_House_switches dc_House_switches pm_House_switches an_House_switches cd_House_switches ct_House_switches), sl_House_switches⟩)
    (c_House_switches : PySem.W.codeIn K cd_House_switches "House.switches" = true)
    (k_House_switches : PySem.W.keepIn K (.ref f_House_switches) = true)
    (m_written : PySem.W.nsIn K mainGlobals "written" = some (some (.ref f_written)))
    (l_written : K.lookup f_written = some ⟨oc_written, od_written, .func (PySem.W.fnOf "written" "written" (defArgs s_written) (defBody s_written) (defScope s_written) .none kV_written dc_written pm_written an_written cd_written ct_written), sl_written⟩)
    (c_written : PySem.W.codeIn K cd_written "written" = true)
    (k_written : PySem.W.keepIn K (.ref f_written) = true)
    (m_read : PySem.W.nsIn K mainGlobals "read" = some (some (.ref f_read)))
    (l_read : K.lookup f_read = some ⟨oc_read, od_read, .func (PySem.W.fnOf "read" "read" (defArgs s_read) (defBody s_read) (defScope s_read) .none kV_read dc_read pm_read an_read cd_read ct_read), sl_read⟩)
    (c_read : PySem.W.codeIn K cd_read "read" = true)
    (k_read : PySem.W.keepIn K (.ref f_read) = true)
    (m__law_cell_at : PySem.W.nsIn K mainGlobals "_law_cell_at" = some (some (.ref f__law_cell_at)))
    (l__law_cell_at : K.lookup f__law_cell_at = some ⟨oc__law_cell_at, od__law_cell_at, .func (PySem.W.fnOf "_law_cell_at" "_law_cell_at" (defArgs s__law_cell_at) (defBody s__law_cell_at) (defScope s__law_cell_at) .none kV__law_cell_at dc__law_cell_at pm__law_cell_at an__law_cell_at cd__law_cell_at ct__law_cell_at), sl__law_cell_at⟩)
    (c__law_cell_at : PySem.W.codeIn K cd__law_cell_at "_law_cell_at" = true)
    (k__law_cell_at : PySem.W.keepIn K (.ref f__law_cell_at) = true)
    (m__law_draw : PySem.W.nsIn K mainGlobals "_law_draw" = some (some (.ref f__law_draw)))
    (l__law_draw : K.lookup f__law_draw = some ⟨oc__law_draw, od__law_draw, .func (PySem.W.fnOf "_law_draw" "_law_draw" (defArgs s__law_draw) (defBody s__law_draw) (defScope s__law_draw) .none kV__law_draw dc__law_draw pm__law_draw an__law_draw cd__law_draw ct__law_draw), sl__law_draw⟩)
    (c__law_draw : PySem.W.codeIn K cd__law_draw "_law_draw" = true)
    (k__law_draw : PySem.W.keepIn K (.ref f__law_draw) = true)
    (m__law_told : PySem.W.nsIn K mainGlobals "_law_told" = some (some (.ref f__law_told)))
    (l__law_told : K.lookup f__law_told = some ⟨oc__law_told, od__law_told, .func (PySem.W.fnOf "_law_told" "_law_told" (defArgs s__law_told) (defBody s__law_told) (defScope s__law_told) .none kV__law_told dc__law_told pm__law_told an__law_told cd__law_told ct__law_told), sl__law_told⟩)
    (c__law_told : PySem.W.codeIn K cd__law_told "_law_told" = true)
    (k__law_told : PySem.W.keepIn K (.ref f__law_told) = true)
    (m__law_refused : PySem.W.nsIn K mainGlobals "_law_refused" = some (some (.ref f__law_refused)))
    (l__law_refused : K.lookup f__law_refused = some ⟨oc__law_refused, od__law_refused, .func (PySem.W.fnOf "_law_refused" "_law_refused" (defArgs s__law_refused) (defBody s__law_refused) (defScope s__law_refused) .none kV__law_refused dc__law_refused pm__law_refused an__law_refused cd__law_refused ct__law_refused), sl__law_refused⟩)
    (c__law_refused : PySem.W.codeIn K cd__law_refused "_law_refused" = true)
    (k__law_refused : PySem.W.keepIn K (.ref f__law_refused) = true)
    (m__law_writes : PySem.W.nsIn K mainGlobals "_law_writes" = some (some (.ref f__law_writes)))
    (l__law_writes : K.lookup f__law_writes = some ⟨oc__law_writes, od__law_writes, .func (PySem.W.fnOf "_law_writes" "_law_writes" (defArgs s__law_writes) (defBody s__law_writes) (defScope s__law_writes) .none kV__law_writes dc__law_writes pm__law_writes an__law_writes cd__law_writes ct__law_writes), sl__law_writes⟩)
    (c__law_writes : PySem.W.codeIn K cd__law_writes "_law_writes" = true)
    (k__law_writes : PySem.W.keepIn K (.ref f__law_writes) = true)
    (m__law_right : PySem.W.nsIn K mainGlobals "_law_right" = some (some (.ref f__law_right)))
    (l__law_right : K.lookup f__law_right = some ⟨oc__law_right, od__law_right, .func (PySem.W.fnOf "_law_right" "_law_right" (defArgs s__law_right) (defBody s__law_right) (defScope s__law_right) .none kV__law_right dc__law_right pm__law_right an__law_right cd__law_right ct__law_right), sl__law_right⟩)
    (c__law_right : PySem.W.codeIn K cd__law_right "_law_right" = true)
    (k__law_right : PySem.W.keepIn K (.ref f__law_right) = true)
    (m__law_other : PySem.W.nsIn K mainGlobals "_law_other" = some (some (.ref f__law_other)))
    (l__law_other : K.lookup f__law_other = some ⟨oc__law_other, od__law_other, .func (PySem.W.fnOf "_law_other" "_law_other" (defArgs s__law_other) (defBody s__law_other) (defScope s__law_other) .none kV__law_other dc__law_other pm__law_other an__law_other cd__law_other ct__law_other), sl__law_other⟩)
    (c__law_other : PySem.W.codeIn K cd__law_other "_law_other" = true)
    (k__law_other : PySem.W.keepIn K (.ref f__law_other) = true)
    (m_law : PySem.W.nsIn K mainGlobals "law" = some (some (.ref f_law)))
    (l_law : K.lookup f_law = some ⟨oc_law, od_law, .func (PySem.W.fnOf "law" "law" (defArgs s_law) (defBody s_law) (defScope s_law) .none kV_law dc_law pm_law an_law cd_law ct_law), sl_law⟩)
    (c_law : PySem.W.codeIn K cd_law "law" = true)
    (k_law : PySem.W.keepIn K (.ref f_law) = true)
    (ex_BadText : PySem.W.excIn K z_BadText [.type "ValueError", .type "Exception", .type "BaseException", .type "object"] "ValueError.__new__" = true)
    (ek_BadText : PySem.W.keepIn K (.ref z_BadText) = true)
    (eb_BadText : PySem.W.subIn K (.ref z_BadText) (.type "BaseException") = some true)
    (et_BadText : PySem.W.typeIn K (.ref z_BadText) = some (.type "type"))
    (yo_hn : PySem.W.specialIn K (.builtin "object.__class__") "__get__" = some (some (.builtin "getset_descriptor.__get__")))
    (yo_htk : PySem.W.takesIn K (.builtin "object.__class__") = some true)
    (ylb : PySem.W.subIn K (.ref z_LampError) (.type "BaseException") = some true)
    (yld : PySem.W.hasDictIn K z_LampError = true)
    (ylt : PySem.W.typeIn K (.ref z_LampError) = some (.type "type"))
    (yeg_BadText : PySem.W.findIn K (.ref z_BadText) "__getattribute__" = some (some (.builtin "BaseException.__getattribute__")))
    (yek_BadText : PySem.W.findIn K (.ref z_BadText) "__getattr__" = some none)
    (yed_BadText : PySem.W.hasDictIn K z_BadText = true)
    (yea_BadText : PySem.W.findIn K (.ref z_BadText) "__class__" = some (some (.builtin "object.__class__")))
    (yem_BadText : PySem.W.mroIn K z_BadText (.type "object") = some true)
    (yes_BadText : PySem.W.subIn K (.ref z_BadText) (.ref z_LampError) = some true)
    (yq_BadText_BadHouse : PySem.W.kitOne K (.ref z_BadText) (.ref z_BadHouse) = some false)
    (yq_BadText_BadLamps : PySem.W.kitOne K (.ref z_BadText) (.ref z_BadLamps) = some false)
    (yq_BadText_BadPress : PySem.W.kitOne K (.ref z_BadText) (.ref z_BadPress) = some false)
    (yq_BadText_BadText : PySem.W.kitOne K (.ref z_BadText) (.ref z_BadText) = some true)
    (yq_BadText_NoSwitch : PySem.W.kitOne K (.ref z_BadText) (.ref z_NoSwitch) = some false)
    (yq_BadText_ValueError : PySem.W.kitOne K (.ref z_BadText) (.type "ValueError") = some true) :
    ∃ fd : FuncData, (∀ (s : Shared) (v : Value), BindsTo s fd ⟨[v], []⟩ [("_law_script", v)]) ∧ ∀ base : Heap, K.In base → base.Ns mainGlobals mg → FnOk l.prog w K mg base CX0 7 fa fd ["_law_script"] (spLaw K) := by
  have e := hfa.symm.trans (PySem.W.mg_of X G m_law)
  cases e
  have T : Txt K mg ⟨z_House, 0, 0, 0, z_LampError, z_BadHouse, z_BadLamps, z_BadPress, z_NoSwitch, z_BadText⟩ := ⟨⟨_, PySem.W.mg_of X G g_LAMPS⟩,
    ⟨_, PySem.W.mg_of X G g_SWITCHES⟩,
    PySem.W.mg_none_of X G n_ValueError,
    PySem.W.mg_none_of X G n_all,
    PySem.W.mg_none_of X G n_any,
    PySem.W.mg_none_of X G n_bool,
    PySem.W.mg_none_of X G n_int,
    PySem.W.mg_none_of X G n_isinstance,
    PySem.W.mg_none_of X G n_len,
    PySem.W.mg_none_of X G n_list,
    PySem.W.mg_none_of X G n_range,
    PySem.W.mg_none_of X G n_str,
    PySem.W.mg_none_of X G n_sum,
    PySem.W.mg_of X G g_LampError,
    PySem.W.mg_of X G g_BadHouse,
    PySem.W.mg_of X G g_BadLamps,
    PySem.W.mg_of X G g_BadPress,
    PySem.W.mg_of X G g_NoSwitch,
    PySem.W.mg_of X G g_BadText,
    PySem.W.mg_of X G g_House,
    ⟨pg_House, hd_House, po_House, sa_House⟩,
    a_House_lamps,
    a_House_turns,
    ⟨_, _, fun_mk (st := s_within) l_within c_within k_within, PySem.W.mg_of X G m_within⟩,
    ⟨f_House_init, _, fun_mk (st := s_House_init) l_House_init c_House_init k_House_init, ⟨mk_House, m_House_init, i_House_init, kc_House⟩, PySem.W.mg_of X G g_House⟩,
    ⟨f_House_switches, _, fun_mk (st := s_House_switches) l_House_switches c_House_switches k_House_switches, ⟨m_House_switches, i_House_switches, k_House_switches⟩⟩,
    ⟨_, _, fun_mk (st := s_written) l_written c_written k_written, PySem.W.mg_of X G m_written⟩,
    ⟨_, _, fun_mk (st := s_read) l_read c_read k_read, PySem.W.mg_of X G m_read⟩,
    ⟨_, _, fun_mk (st := s__law_cell_at) l__law_cell_at c__law_cell_at k__law_cell_at, PySem.W.mg_of X G m__law_cell_at⟩,
    ⟨_, _, fun_mk (st := s__law_draw) l__law_draw c__law_draw k__law_draw, PySem.W.mg_of X G m__law_draw⟩,
    ⟨_, _, fun_mk (st := s__law_told) l__law_told c__law_told k__law_told, PySem.W.mg_of X G m__law_told⟩,
    ⟨_, _, fun_mk (st := s__law_refused) l__law_refused c__law_refused k__law_refused, PySem.W.mg_of X G m__law_refused⟩,
    ⟨_, _, fun_mk (st := s__law_writes) l__law_writes c__law_writes k__law_writes, PySem.W.mg_of X G m__law_writes⟩,
    ⟨_, _, fun_mk (st := s__law_right) l__law_right c__law_right k__law_right, PySem.W.mg_of X G m__law_right⟩,
    ⟨_, _, fun_mk (st := s__law_other) l__law_other c__law_other k__law_other, PySem.W.mg_of X G m__law_other⟩,
    ⟨_, _, fun_mk (st := s_law) l_law c_law k_law, PySem.W.mg_of X G m_law⟩,
    ex_BadText,
    ek_BadText,
    eb_BadText,
    et_BadText,
    yo_hn,
    yo_htk,
    ylb,
    yld,
    ylt,
    yeg_BadText,
    yek_BadText,
    yed_BadText,
    yea_BadText,
    yem_BadText,
    yes_BadText,
    yq_BadText_BadHouse,
    yq_BadText_BadLamps,
    yq_BadText_BadPress,
    yq_BadText_BadText,
    yq_BadText_NoSwitch,
    yq_BadText_ValueError⟩
  exact ⟨_, fun s v => .of_eq rfl, fun base _ _ => fn_law (fun_mk (st := s_law) l_law c_law k_law) T⟩
theorem walk {l : PySem.W.OpenLaw} {q : Program} {loose : List Str} {XP : (Str → Option Value) → Heap → Prop} {YP : World → Heap → Prop} {d : DefRec} {K : Params → PySem.W.Frag} (hn : l.most = some 63) (hdf : d.params.defaults = [])
    (hY : ∀ (w : World) (h : Heap), YP w h → (K w.params).In h)
    (F : ∀ (w : World) (mg : Str → Option Value) (fa : Addr) (h : Heap), (K w.params).In h → h.Ns mainGlobals mg → mg d.name = some (.ref fa) →
      ∃ fd : FuncData, (∀ (s : Shared) (u : Value), BindsTo s fd ⟨[u], []⟩ [("_law_script", u)]) ∧ ∀ base : Heap, (K w.params).In base → base.Ns mainGlobals mg → FnOk l.prog w (K w.params) mg base CX0 7 fa fd ["_law_script"] (spLaw (K w.params))) :
    PySem.W.WalkO q loose XP YP l.row.toRowW d [] (fun f vs => PySem.call f vs) :=
  L2.walk_ofB (n := 63) (k := 7) (x := "_law_script") (CX := fun _ => CX0) (sp := fun w => spLaw (K w.params)) hn (by decide) hdf ⟨rfl, by decide, by decide⟩ hY F (fun _ _ a ns hl hb _ hS => ⟨a, ns, rfl, hS, hl, hb, fun _ => rfl⟩) fun _ _ _ _ _ z => z
end Sw
open PySem PySem.W PyProof.Rows in
set_option maxRecDepth 100000 in
set_option maxHeartbeats 0 in
theorem PySem.Challenge.cw_switchlamps_k08_texts_misread_holds : PySem.Challenge.rw_switchlamps_k08_texts_misread.Holds := by
  w_on; o_law; k_head; (case hw => w_witness2)
  k_fill
  refine Sw.walk (l := PySem.Challenge.rw_switchlamps_k08_texts_misread) rfl rfl (fun w h Y => PySem.W.kIn_of Y) ?F
  case F =>
    intro w mg fa h KX G hmg
    refine' Sw.all_mk KX G hmg ?g_LAMPS ?g_SWITCHES ?n_ValueError ?n_all ?n_any ?n_bool ?n_int ?n_isinstance ?n_len ?n_list ?n_range ?n_str ?n_sum ?g_LampError ?g_BadHouse ?g_BadLamps ?g_BadPress ?g_NoSwitch ?g_BadText ?g_House ?pg_House ?hd_House ?po_House ?sa_House ?mk_House ?kc_House ?a_House_lamps ?a_House_turns ?m_within ?l_within ?c_within ?k_within ?m_House_init ?i_House_init ?l_House_init ?c_House_init ?k_House_init ?m_House_switches ?i_House_switches ?l_House_switches ?c_House_switches ?k_House_switches ?m_written ?l_written ?c_written ?k_written ?m_read ?l_read ?c_read ?k_read ?m__law_cell_at ?l__law_cell_at ?c__law_cell_at ?k__law_cell_at ?m__law_draw ?l__law_draw ?c__law_draw ?k__law_draw ?m__law_told ?l__law_told ?c__law_told ?k__law_told ?m__law_refused ?l__law_refused ?c__law_refused ?k__law_refused ?m__law_writes ?l__law_writes ?c__law_writes ?k__law_writes ?m__law_right ?l__law_right ?c__law_right ?k__law_right ?m__law_other ?l__law_other ?c__law_other ?k__law_other ?m_law ?l_law ?c_law ?k_law ?ex_BadText ?ek_BadText ?eb_BadText ?et_BadText ?yo_hn ?yo_htk ?ylb ?yld ?ylt ?yeg_BadText ?yek_BadText ?yed_BadText ?yea_BadText ?yem_BadText ?yes_BadText ?yq_BadText_BadHouse ?yq_BadText_BadLamps ?yq_BadText_BadPress ?yq_BadText_BadText ?yq_BadText_NoSwitch ?yq_BadText_ValueError
    (case g_LAMPS => k_is)
    (case g_SWITCHES => k_is)
    (case n_ValueError => k_is)
    (case n_all => k_is)
    (case n_any => k_is)
    (case n_bool => k_is)
    (case n_int => k_is)
    (case n_isinstance => k_is)
    (case n_len => k_is)
    (case n_list => k_is)
    (case n_range => k_is)
    (case n_str => k_is)
    (case n_sum => k_is)
    (case g_LampError => k_is)
    (case g_BadHouse => k_is)
    (case g_BadLamps => k_is)
    (case g_BadPress => k_is)
    (case g_NoSwitch => k_is)
    (case g_BadText => k_is)
    (case g_House => k_is)
    (case pg_House => k_is)
    (case hd_House => k_is)
    (case po_House => k_is)
    (case sa_House => k_is)
    (case mk_House => k_is)
    (case kc_House => k_is)
    (case a_House_lamps => k_is)
    (case a_House_turns => k_is)
    (case m_within => k_is)
    (case l_within => k_is)
    (case c_within => k_is)
    (case k_within => k_is)
    (case m_House_init => k_is)
    (case i_House_init => k_is)
    (case l_House_init => k_is)
    (case c_House_init => k_is)
    (case k_House_init => k_is)
    (case m_House_switches => k_is)
    (case i_House_switches => k_is)
    (case l_House_switches => k_is)
    (case c_House_switches => k_is)
    (case k_House_switches => k_is)
    (case m_written => k_is)
    (case l_written => k_is)
    (case c_written => k_is)
    (case k_written => k_is)
    (case m_read => k_is)
    (case l_read => k_is)
    (case c_read => k_is)
    (case k_read => k_is)
    (case m__law_cell_at => k_is)
    (case l__law_cell_at => k_is)
    (case c__law_cell_at => k_is)
    (case k__law_cell_at => k_is)
    (case m__law_draw => k_is)
    (case l__law_draw => k_is)
    (case c__law_draw => k_is)
    (case k__law_draw => k_is)
    (case m__law_told => k_is)
    (case l__law_told => k_is)
    (case c__law_told => k_is)
    (case k__law_told => k_is)
    (case m__law_refused => k_is)
    (case l__law_refused => k_is)
    (case c__law_refused => k_is)
    (case k__law_refused => k_is)
    (case m__law_writes => k_is)
    (case l__law_writes => k_is)
    (case c__law_writes => k_is)
    (case k__law_writes => k_is)
    (case m__law_right => k_is)
    (case l__law_right => k_is)
    (case c__law_right => k_is)
    (case k__law_right => k_is)
    (case m__law_other => k_is)
    (case l__law_other => k_is)
    (case c__law_other => k_is)
    (case k__law_other => k_is)
    (case m_law => k_is)
    (case l_law => k_is)
    (case c_law => k_is)
    (case k_law => k_is)
    (case ex_BadText => k_exc)
    (case ek_BadText => first | rfl | k_is)
    (case eb_BadText => first | rfl | k_is)
    (case et_BadText => first | rfl | k_is)
    (case yo_hn => k_is)
    (case yo_htk => k_is)
    (case ylb => k_is)
    (case yld => k_is)
    (case ylt => k_is)
    (case yeg_BadText => k_is)
    (case yek_BadText => k_is)
    (case yed_BadText => k_is)
    (case yea_BadText => k_is)
    (case yem_BadText => k_is)
    (case yes_BadText => k_is)
    (case yq_BadText_BadHouse => kit_is)
    (case yq_BadText_BadLamps => kit_is)
    (case yq_BadText_BadPress => kit_is)
    (case yq_BadText_BadText => kit_is)
    (case yq_BadText_NoSwitch => kit_is)
    (case yq_BadText_ValueError => kit_is)
