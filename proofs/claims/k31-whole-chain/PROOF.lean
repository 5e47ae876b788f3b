import PyProof.Rows.All
import Wide.All
import OpenK.AllK
import Wide.FinOn
import HandS.ForMost
import HandS.ForExc
import HandS.More
import HandS.Style
import HandS.IsInst
import HandS.IterNext
import HandS.SetBool
import HandS.Strs
import HandS.ExcInit
import KE.KExcSuper
import KE.KSuper
import HandS.OwnIter
import HandS.Sort
import HandS.SortKw
import KE.DataMinMax
import PySem.Challenge.RW_onecable_k31_whole_chain_or_closed_sets
-- B0
set_option Elab.async false
set_option linter.all false
set_option maxRecDepth 100000
set_option maxHeartbeats 4000000
/-! The text by places, data, heaps. -/
namespace Oc
open PySem L2
/-! ### the text by places -/
def top (i : Nat) : Stmt := PySem.Challenge.pw_onecable_k31_whole_chain_or_closed_sets.main.body.getD i (.Pass ⟨0, 0, 0, 0⟩)
abbrev pl (j : Nat) : Stmt := inClass (top 17) j
abbrev sFree : Stmt := top 6
abbrev sChainTo : Stmt := top 7
abbrev sFind : Stmt := top 8
abbrev sCheckDay : Stmt := top 14
abbrev sDayHours : Stmt := top 15
abbrev sInit : Stmt := pl 0
abbrev sCkCar : Stmt := pl 1
abbrev sCkHour : Stmt := pl 2
abbrev sInWin : Stmt := pl 3
abbrev sSetHour : Stmt := pl 4
abbrev sGot : Stmt := pl 5
abbrev sLack : Stmt := pl 6
abbrev sHoursOf : Stmt := pl 7
abbrev sRoom : Stmt := pl 8
abbrev sTotal : Stmt := pl 9
abbrev sLen : Stmt := pl 11
abbrev sIter : Stmt := pl 12
abbrev sGetItem : Stmt := pl 13
abbrev sSetItem : Stmt := pl 14
abbrev sCell : Stmt := top 19
abbrev sPool : Stmt := top 20
abbrev sTake : Stmt := top 21
abbrev sSame : Stmt := top 22
abbrev sDay : Stmt := top 23
abbrev sLot : Stmt := top 24
abbrev sRoomL : Stmt := top 25
abbrev sHours : Stmt := top 26
abbrev sThere : Stmt := top 27
abbrev sGotL : Stmt := top 28
abbrev sPicked : Stmt := top 29
abbrev sSomePlan : Stmt := top 30
abbrev sReach : Stmt := top 31
abbrev sPlanIs : Stmt := top 32
abbrev sPlanned : Stmt := top 33
abbrev sReset : Stmt := top 34
abbrev sIsChain : Stmt := top 35
abbrev sNoChain : Stmt := top 36
abbrev sChainTold : Stmt := top 37
abbrev sFindTold : Stmt := top 38
abbrev sLaw : Stmt := top 39

/-! ### heaps -/
/-- what stood stands, but the lists at l may hold other items -/
def Frm (l : List Addr) (H H' : Hp) : Prop := ∀ b o, H b = some o → H' b = some o ∨ (b ∈ l ∧ ∃ xs ys, o = .lst xs ∧ H' b = some (.lst ys))
theorem Frm.refl {l : List Addr} {H : Hp} : Frm l H H := fun _ _ h => .inl h
theorem Frm.trans {l : List Addr} {H H1 H2 : Hp} (a : Frm l H H1) (b : Frm l H1 H2) : Frm l H H2 := fun c o h => by
  rcases a c o h with h1 | ⟨hm, xs, ys, rfl, h1⟩
  · exact b c o h1
  · rcases b c _ h1 with h2 | ⟨_, _, zs, _, h2⟩
    · exact .inr ⟨hm, xs, ys, rfl, h2⟩
    · exact .inr ⟨hm, xs, zs, rfl, h2⟩
theorem Frm.mono {l l' : List Addr} {H H' : Hp} (a : Frm l H H') (s : ∀ x ∈ l, x ∈ l') : Frm l' H H' := fun c o h => by
  rcases a c o h with h1 | ⟨hm, q⟩
  · exact .inl h1
  · exact .inr ⟨s _ hm, q⟩
theorem Frm.nil {l : List Addr} {H H' : Hp} (a : Frm [] H H') : Frm l H H' := a.mono fun _ z => nomatch z
theorem Frm.of_same {l : List Addr} {H H' : Hp} (a : Same H H') : Frm l H H' := fun c o h => .inl (a c o h)
theorem Frm.same {H H' : Hp} (a : Frm [] H H') : Same H H' := fun c o h => by
  rcases a c o h with h1 | ⟨hm, _⟩
  · exact h1
  · cases hm
theorem Frm.new {l : List Addr} {H : Hp} {p : Addr} {o : HO} (h : H p = none) : Frm l H (upd H p o) := fun b u e => .inl (by rw [upd_ne (ne_of_none e h)]; exact e)
theorem Frm.set {l : List Addr} {H : Hp} {p : Addr} {xs ys : List V} (hm : p ∈ l) (h : H p = some (.lst xs)) : Frm l H (upd H p (.lst ys)) := fun b u e => by
  by_cases hb : b = p
  · subst hb
    rw [h] at e
    cases e
    exact .inr ⟨hm, xs, ys, rfl, upd_same⟩
  · exact .inl (by rw [upd_ne hb]; exact e)
theorem Frm.free {l : List Addr} {H H' : Hp} (a : Frm l H H') {p : Addr} (h : H' p = none) : H p = none := by
  cases q : H p with
  | none => rfl
  | some o =>
    rcases a p o q with h1 | ⟨_, _, _, _, h1⟩
    · rw [h] at h1; cases h1
    · rw [h] at h1; cases h1
theorem Frm.at {l : List Addr} {H H' : Hp} (a : Frm l H H') {p : Addr} {o : HO} (h : H p = some o) (hn : p ∉ l) : H' p = some o := by
  rcases a p o h with h1 | ⟨hm, _⟩
  · exact h1
  · exact absurd hm hn
theorem Frm.tup {l : List Addr} {H H' : Hp} (a : Frm l H H') {p : Addr} {xs : List V} (h : H p = some (.tup xs)) : H' p = some (.tup xs) := by
  rcases a p _ h with h1 | ⟨_, _, _, e, _⟩
  · exact h1
  · cases e
theorem Frm.ins {l : List Addr} {H H' : Hp} (a : Frm l H H') {p C dx : Addr} {fs : List (Str × V)} (h : H p = some (.ins C dx fs)) : H' p = some (.ins C dx fs) := by
  rcases a p _ h with h1 | ⟨_, _, _, e, _⟩
  · exact h1
  · cases e
theorem Frm.dk {l : List Addr} {H H' : Hp} (a : Frm l H H') {p : Addr} {kvs : List (Key × V)} (h : H p = some (.dK kvs)) : H' p = some (.dK kvs) := by
  rcases a p _ h with h1 | ⟨_, _, _, e, _⟩
  · exact h1
  · cases e
theorem Frm.put {l : List Addr} {H H' : Hp} (a : Frm l H H') {p : Addr} {o : HO} (h : H p = none) : Frm l H (upd H' p o) := fun b u e => by
  rw [upd_ne (ne_of_none e h)]
  exact a b u e
/-- a new address differs from what stands -/
theorem ne_new {H : Hp} {a p : Addr} {o : HO} (h : H a = some o) (hp : H p = none) : p ≠ a := fun e => by
  rw [e, h] at hp
  cases hp

/-- what stands at the addresses, one by one -/
def Objs (H : Hp) (as : List Addr) (os : List HO) : Prop := as.length = os.length ∧ ∀ (i : Nat) (a : Addr) (o : HO), as[i]? = some a → os[i]? = some o → H a = some o
theorem Objs.nil {H : Hp} : Objs H [] [] := ⟨rfl, fun i a o h => by simp at h⟩
theorem Objs.at {H : Hp} {as : List Addr} {os : List HO} (h : Objs H as os) {i : Nat} {o : HO} (e : os[i]? = some o) : ∃ a, as[i]? = some a ∧ H a = some o := by
  have hl := h.1
  have hi : i < os.length := (List.getElem?_eq_some_iff.mp e).1
  have ha : as[i]? = some as[i] := List.getElem?_eq_getElem (by omega)
  exact ⟨_, ha, h.2 i _ _ ha e⟩
theorem Objs.of {H : Hp} {as : List Addr} {os : List HO} (h : Objs H as os) {i : Nat} {a : Addr} (e : as[i]? = some a) : ∃ o, os[i]? = some o ∧ H a = some o := by
  have hl := h.1
  have hi : i < as.length := (List.getElem?_eq_some_iff.mp e).1
  have ha : os[i]? = some os[i] := List.getElem?_eq_getElem (by omega)
  exact ⟨_, ha, h.2 i _ _ e ha⟩
theorem Objs.imp {H H' : Hp} {as : List Addr} {os : List HO} (h : Objs H as os) (k : ∀ a ∈ as, ∀ o ∈ os, H a = some o → H' a = some o) : Objs H' as os :=
  ⟨h.1, fun i a o e1 e2 => k a (List.mem_of_getElem? e1) o (List.mem_of_getElem? e2) (h.2 i a o e1 e2)⟩
theorem Objs.frm {l : List Addr} {H H' : Hp} {as : List Addr} {os : List HO} (h : Objs H as os) (f : Frm l H H') (hn : ∀ a ∈ as, a ∉ l) : Objs H' as os :=
  h.imp fun a ha o _ e => f.at e (hn a ha)
theorem Objs.frmT {l : List Addr} {H H' : Hp} {as : List Addr} {α : Type} {g : α → List V} {xs : List α} (h : Objs H as (xs.map fun x => .tup (g x))) (f : Frm l H H') : Objs H' as (xs.map fun x => .tup (g x)) :=
  h.imp fun a _ o ho e => by
    obtain ⟨x, _, rfl⟩ := List.mem_map.mp ho
    exact f.tup e
theorem Objs.snoc {H : Hp} {as : List Addr} {os : List HO} {a : Addr} {o : HO} (h : Objs H as os) (e : H a = some o) : Objs H (as ++ [a]) (os ++ [o]) := by
  refine ⟨by rw [List.length_append, List.length_append, h.1]; rfl, fun i b u e1 e2 => ?_⟩
  by_cases hi : i < as.length
  · rw [List.getElem?_append_left hi] at e1
    rw [List.getElem?_append_left (by have := h.1; omega)] at e2
    exact h.2 i b u e1 e2
  · rw [List.getElem?_append_right (by omega)] at e1
    rw [List.getElem?_append_right (by have := h.1; omega), ← h.1] at e2
    cases hk : i - as.length with
    | zero =>
      rw [hk] at e1 e2
      cases e1; cases e2
      exact e
    | succ n =>
      rw [hk] at e1
      simp at e1
theorem Objs.set {H H' : Hp} {as : List Addr} {os : List HO} {j : Nat} {a : Addr} {o : HO} (h : Objs H as os) (e : H' a = some o) (k : ∀ b u, b ∈ as → H b = some u → H' b = some u) : Objs H' (as.set j a) (os.set j o) := by
  refine ⟨by rw [List.length_set, List.length_set, h.1], fun i b u e1 e2 => ?_⟩
  by_cases hi : j = i
  · subst hi
    have h1 : j < as.length := by
      have := (List.getElem?_eq_some_iff.mp e1).1
      rwa [List.length_set] at this
    rw [List.getElem?_set_self h1] at e1
    rw [List.getElem?_set_self (by have := h.1; omega)] at e2
    cases e1; cases e2
    exact e
  · rw [List.getElem?_set_ne hi] at e1 e2
    exact k _ _ (List.mem_of_getElem? e1) (h.2 i b u e1 e2)
theorem Objs.free {H H0 : Hp} {as : List Addr} {os : List HO} (h : Objs H as os) {p : Addr} (hp : H p = none) : p ∉ as := fun hm => by
  obtain ⟨i, hi, rfl⟩ := List.getElem_of_mem hm
  obtain ⟨o, _, e⟩ := h.of (List.getElem?_eq_getElem hi)
  rw [hp] at e
  cases e

/-! ### data: a car (come, stay, need), a row of numbers -/
abbrev Car := Nat × Nat × Nat
abbrev iv (n : Nat) : V := .int n
abbrev carO (c : Car) : HO := .tup [iv c.1, iv c.2.1, iv c.2.2]
abbrev rowO (r : List Nat) : HO := .lst (r.map iv)
abbrev tupO (r : List Nat) : HO := .tup (r.map iv)
abbrev refs (as : List Addr) : List V := as.map V.ref
/-- a list of cars -/
def CarsL (H : Hp) (L : Addr) (cas : List Addr) (cars : List Car) : Prop := H L = some (.lst (refs cas)) ∧ Objs H cas (cars.map carO)
def CarsT (H : Hp) (T : Addr) (cas : List Addr) (cars : List Car) : Prop := H T = some (.tup (refs cas)) ∧ Objs H cas (cars.map carO)
def RowsL (H : Hp) (R : Addr) (ras : List Addr) (rows : List (List Nat)) : Prop := H R = some (.lst (refs ras)) ∧ Objs H ras (rows.map rowO)
def pfs (w : Nat) (T S : Addr) : List (Str × V) := [("width", iv w), ("cars", .ref T), ("hours_served", .ref S)]
structure PlanAt (C : Addr) (H : Hp) (P T S : Addr) (w : Nat) (cas : List Addr) (cars : List Car) (has : List Addr) (rows : List (List Nat)) : Prop where
  ob : ∃ dx, H P = some (.ins C dx (pfs w T S))
  ct : CarsT H T cas cars
  hs : H S = some (.lst (refs has))
  ho : Objs H has (rows.map tupO)
theorem CarsL.frm {l : List Addr} {H H' : Hp} {L : Addr} {cas : List Addr} {cars : List Car} (h : CarsL H L cas cars) (f : Frm l H H') (hn : L ∉ l) : CarsL H' L cas cars := ⟨f.at h.1 hn, h.2.frmT f⟩
theorem CarsT.frm {l : List Addr} {H H' : Hp} {L : Addr} {cas : List Addr} {cars : List Car} (h : CarsT H L cas cars) (f : Frm l H H') : CarsT H' L cas cars := ⟨f.tup h.1, h.2.frmT f⟩
theorem RowsL.frm {l : List Addr} {H H' : Hp} {R : Addr} {ras : List Addr} {rows : List (List Nat)} (h : RowsL H R ras rows) (f : Frm l H H') (hn : R ∉ l) (hr : ∀ a ∈ ras, a ∉ l) : RowsL H' R ras rows := ⟨f.at h.1 hn, h.2.frm f hr⟩
theorem PlanAt.frm {l : List Addr} {C : Addr} {H H' : Hp} {P T S : Addr} {w : Nat} {cas : List Addr} {cars : List Car} {has : List Addr} {rows : List (List Nat)} (h : PlanAt C H P T S w cas cars has rows) (f : Frm l H H') (hn : S ∉ l) : PlanAt C H' P T S w cas cars has rows :=
  ⟨let ⟨dx, e⟩ := h.ob; ⟨dx, f.ins e⟩, h.ct.frm f, f.at h.hs hn, h.ho.frmT f⟩
/-- a car of the day -/
structure CarOk (c : Car) : Prop where
  come : c.1 ≤ 60
  s1 : 1 ≤ c.2.1
  s2 : c.2.1 ≤ 12
  n1 : 1 ≤ c.2.2
  n2 : c.2.2 ≤ c.2.1
end Oc
-- E0
set_option Elab.async false
set_option linter.all false
set_option maxRecDepth 100000
set_option maxHeartbeats 4000000
/-! Further rules: defs under their names, methods, special methods of an own class. -/
namespace Oc
open PySem PySem.Spec PyProof.Rows L2

/-- a def of the text under its name, with its promise -/
def DefAt (P : Program) (w : World) (K : PySem.W.Frag) (mg : Str → Option Value) (base : Heap) (CX : CXT) (k : Nat) (name : Str) (ps : List Str) (sp : Sp) : Prop :=
  ∃ f fd, FnOk P w K mg base CX k f fd ps sp ∧ mg name = some (.ref f) ∧ PySem.W.keepIn K (.ref f) = true ∧ Binds K fd ps []
/-- a method of the class at C, with its promise -/
def MethAt (P : Program) (w : World) (K : PySem.W.Frag) (mg : Str → Option Value) (base : Heap) (CX : CXT) (k : Nat) (C : Addr) (name : Str) (ps : List Str) (sp : Sp) : Prop :=
  ∃ f fd, FnOk P w K mg base CX k f fd ps sp ∧ Meth K C name f ∧ Binds K fd ps []
section
variable {X : Cx} {CX : CXT} {k : Nat} {C : Addr} {name : Str} {ps : List Str} {sp : Sp} {E : XK} {p pos apos : Pos} {e o a b : Expr} {es : List Expr} {ta tb : TE} {t : TA}
theorem pe_def (D : DefAt X.prog X.w X.K X.mg X.base CX k name ps sp) (hr : Room k X.A) (hx : Passes CX X E) (ha : PA X (e :: es) t) (hg : Gl X name := by rfl) (hdb : (name == ("__debug__" : Str)) = false := by decide)
    (he : starEach (e :: es) X.env = (false, eval e X.env) :: starEach es X.env := by rfl) (hpl : (backTo pos (starEach es X.env)).any (·.1) = false := by rfl) :
    PE X (.Call (.Name name p) (e :: es) [] pos) (tCall sp [] E t) := by
  obtain ⟨f, fd, F, hm, hk, hb⟩ := D
  exact pe_call F hr hg hm hk hb .nil hx ha hdb he hpl
theorem pe_mth {pl : Sem Bool} (D : MethAt X.prog X.w X.K X.mg X.base CX k C name ps sp) (c : Cls X.K C) (hr : Room k X.A) (hx : Passes CX X E) (ho : PE X o ta) (ha : PA X (e :: es) t)
    (hst : starEach (e :: es) X.env = (false, eval e X.env) :: starEach es X.env := by rfl) (hpl : (backTo pos (starEach es X.env)).any (·.1) = false := by rfl)
    (ht : eval (.Call (.Attribute o name apos) (e :: es) [] pos) X.env = (do
      let ov ← eval o X.env
      standAt apos.atName
      let (f, first) ← holding [ov] (getMethod ov name pl)
      callWith pos f first (backTo pos (starEach (e :: es) X.env)) (backToKw pos (keywordEach [] X.env))) := by rfl) :
    PE X (.Call (.Attribute o name apos) (e :: es) [] pos) (tMeth C name sp [] E ta t) := by
  obtain ⟨f, fd, F, hm, hb⟩ := D
  exact pe_meth ho c hm F hr hb .nil hx ha hst hpl ht
theorem pe_mth0 {pl : Sem Bool} (D : MethAt X.prog X.w X.K X.mg X.base CX k C name ps sp) (c : Cls X.K C) (hr : Room k X.A) (hx : Passes CX X E) (ho : PE X o ta)
    (ht : eval (.Call (.Attribute o name apos) [] [] pos) X.env = (do
      let ov ← eval o X.env
      standAt apos.atName
      let (f, first) ← holding [ov] (getMethod ov name pl)
      callWith pos f first (backTo pos (starEach [] X.env)) (backToKw pos (keywordEach [] X.env))) := by rfl) :
    PE X (.Call (.Attribute o name apos) [] [] pos) (tMeth C name sp [] E ta tNil) := by
  obtain ⟨f, fd, F, hm, hb⟩ := D
  exact pe_meth0 ho c hm F hr hb .nil hx ht

/-- a def runs, somewhere below the running body -/
theorem run_below {f : Addr} {fd : FuncData} {A1 : Around} {pins : List (Addr × Obj)} {σ : L2.St} {H : Hp} {s : Shared} {Q : VK} {us : List Value} {vs : List V} (F : FnOk X.prog X.w X.K X.mg X.base CX k f fd ps sp) (hr : Room k A1) (hf : A1.frames = X.A.frames)
    (hb : Binds X.K fd ps []) (hx : Passes CX X E) (I : Inv X pins σ H s) (r : Vals vs us) (h : sp vs H Q E) : wpAny (model X.prog X.w) A1 (call (.ref f) us) (EP X pins σ Q) X.xe s := by
  have e := I.env0
  have hl := F.len _ _ _ _ h
  have hl2 : (us ++ []).length = ps.length := by rw [List.append_nil, ← r.length]; exact hl
  have bt := hb s us I.kIn hl2
  rw [List.append_nil] at bt
  refine wpAny_call (codeAny_mono (F.run A1 X.stack s H ⟨us, []⟩ us vs Q E hr ⟨hf.trans e.frames, e.mod, e.bs, e.bsz, e.funs, e.frf, e.hok, e.bare⟩ bt r h) fun res s' hq => ?_)
  cases res with
  | error er => exact hx pins σ H s er s' I hq
  | ok fl =>
    cases fl with
    | ret u => exact I.after hq
    | next => exact False.elim hq
    | brk => exact False.elim hq
    | cont => exact False.elim hq

/-- o[i] by the class's own __getitem__ -/
def rGetOwn (C : Addr) (sp : Sp) (E : XK) : R2 := fun x y H Q => ∃ a dx fs, x = .ref a ∧ H a = some (.ins C dx fs) ∧ sp [x, y] H Q E
theorem pe_getOwn (D : MethAt X.prog X.w X.K X.mg X.base CX k C "__getitem__" ps sp) (hfi : ∀ f, PySem.W.findIn X.K (.ref C) "__getitem__" = some (some (.ref f)) → PySem.W.fnIn X.K f = true) (hr : Room (k + 1) X.A) (hx : Passes CX X E) (ha : PE X a ta) (hb : PE X b tb)
    (hs : ∀ o i, subscripted b true o i = runValue (.builtin "lifetime.subscript" ⟨[o, i], []⟩) := by intros; rfl) : PE X (.Subscript a b pos) (tOp (rGetOwn C sp E) ta tb) := by
  refine ⟨fun pins s σ H Q I h => ?_⟩
  refine Subscript_ (binT ha hb I h fun v u s2 x y H2 I2 rx ry q => ?_)
  obtain ⟨ad, dx, fs, rfl, hi, hsp⟩ := q
  cases rx
  obtain ⟨f, fd, F, hm, hbd⟩ := D
  obtain ⟨mA, J, _⟩ := ins_get I2.hok hi
  obtain ⟨od, J, _⟩ := J.look
  obtain ⟨m, hF⟩ := I2.fr
  exact PySem.W.sub_K hF I2.ok.mod.kin J hm.at_ (hfi f hm.at_) hm.fn (run_below F hr.in1 rfl hbd hx I2 (.cons (show RelV (.ref ad) (.ref ad) from rfl) (.cons ry .nil)) hsp) (hs _ _)
/-- o[i] = v by the class's own __setitem__ -/
def rSetOwn (C : Addr) (sp : Sp) (E : XK) : TSet := fun o i v H Q => ∃ a dx fs, o = .ref a ∧ H a = some (.ins C dx fs) ∧ sp [o, i, v] H (fun _ H' => Q H') E
theorem set_own (D : MethAt X.prog X.w X.K X.mg X.base CX k C "__setitem__" ps sp) (hq : PySem.W.noSeq X.K C = true) (hr : Room k X.A) (hx : Passes CX X E) : PSet X (rSetOwn C sp E) := by
  intro pins s σ H o i v ov iv' u Q I ro ri rv h
  obtain ⟨ad, dx, fs, rfl, hi, hsp⟩ := h
  cases ro
  obtain ⟨f, fd, F, hm, hbd⟩ := D
  obtain ⟨mA, J, _⟩ := ins_get I.hok hi
  obtain ⟨od, J, _⟩ := J.look
  obtain ⟨m, hF⟩ := I.fr
  refine PySem.W.ksp_setItem hF I.ok.mod.kin J hq hm.at_ hm.fn (thn (run_below F hr rfl hbd hx I (.cons (show RelV (.ref ad) (.ref ad) from rfl) (.cons ri (.cons rv .nil))) hsp) fun w s' z => ?_)
  obtain ⟨y, H', I', _, q⟩ := z
  exact ⟨H', I', q⟩
/-- len(o) by the class's own __len__ -/
def rLenOwn (C : Addr) (sp : Sp) (E : XK) : List V → Hp → VK → Prop := fun xs H Q => ∃ a dx fs, xs = [.ref a] ∧ H a = some (.ins C dx fs) ∧ sp [.ref a] H (fun v H' => ∃ n : Nat, v = .int n ∧ n < 2 ^ 63 ∧ Q (.int n) H') E
theorem len_own {A1 : Around} {pins : List (Addr × Obj)} {σ : L2.St} {H : Hp} {s : Shared} {Q : VK} {a dx : Addr} {fs : List (Str × V)} (D : MethAt X.prog X.w X.K X.mg X.base CX k C "__len__" ps sp) (hr : Room (k + 1) A1) (hf : A1.frames = X.A.frames) (hx : Passes CX X E) (I : Inv X pins σ H s)
    (hi : H a = some (.ins C dx fs)) (hsp : sp [.ref a] H (fun v H' => ∃ n : Nat, v = .int n ∧ n < 2 ^ 63 ∧ Q (.int n) H') E) : wpAny (model X.prog X.w) A1 (call (.builtin "len") [.ref a]) (EP X pins σ Q) X.xe s := by
  obtain ⟨f, fd, F, hm, hbd⟩ := D
  obtain ⟨mA, J, _⟩ := ins_get I.hok hi
  obtain ⟨od, J, _⟩ := J.look
  obtain ⟨m, hF⟩ := I.fr
  refine PySem.W.len_K hF I.ok.mod.kin J hm.at_ hm.fn (thn (run_below F hr.in1 hf hbd hx I (.cons (show RelV (.ref a) (.ref a) from rfl) .nil) hsp) fun v s' z => ?_)
  obtain ⟨y, H', I', ry, n, rfl, hn, q⟩ := z
  obtain ⟨tk, rfl⟩ := ry
  exact ⟨⟨by omega, by omega⟩, .int n, H', I'.tok _, ⟨_, rfl⟩, q⟩
theorem call_lenOwn (D : MethAt X.prog X.w X.K X.mg X.base CX k C "__len__" ps sp) (hr : Room (k + 1) X.A) (hx : Passes CX X E) : CallR X (.builtin "len") (rLenOwn C sp E) := by
  intro pins s σ H xs us Q I rv h
  obtain ⟨a, dx, fs, rfl, hi, hsp⟩ := h
  obtain ⟨u, rfl, ru⟩ := rv.one
  cases ru
  exact len_own D hr rfl hx I hi hsp
/-- x is True, x is False, whatever x is -/
theorem op_isV : OpR X (compareOp .Is) (fun x y H Q => ∃ k : Bool, y = .bl k ∧ Q (.bl (decide (x = .bl k))) H) := by
  intro pins s σ H x y v u Q I rx ry h
  obtain ⟨kk, rfl, q⟩ := h
  cases (show u = Value.bool kk from ry)
  by_cases e : x = .bl kk
  · subst e
    cases (show v = Value.bool kk from rx)
    exact wpAny_is_self rfl ⟨.bl true, H, I, rfl, by simpa using q⟩
  · refine wpAny_is_other ?_ (fun z => e (RelV.inj rx (by rw [z]; rfl))) ⟨.bl false, H, I, rfl, by simpa [e] using q⟩
    cases x with
    | non => cases (show v = Value.none from rx); rfl
    | bl b => cases (show v = Value.bool b from rx); rfl
    | int i => obtain ⟨t, q⟩ := (show ∃ t, v = Value.int i t from rx); cases q; rfl
    | str i => obtain ⟨t, q⟩ := (show ∃ t, v = Value.str i t from rx); cases q; rfl
    | byt i => obtain ⟨t, q⟩ := (show ∃ t, v = Value.bytes i t from rx); cases q; rfl
    | flt i => obtain ⟨t, q⟩ := (show ∃ t, v = Value.float i t from rx); cases q; rfl
    | ref a => cases (show v = Value.ref a from rx); rfl
    | ty n => cases (show v = Value.type n from rx); rfl
/-! ### the same with the written part told (within a comprehension's block) -/
variable {KK : PySem.W.Frag}
theorem op_in_seqK (KK : PySem.W.Frag) (h : X.K = KK := by rfl) : OpR X (compareOp .In) (rIn KK false) := h ▸ op_in_seq
theorem op_notIn_seqK (KK : PySem.W.Frag) (h : X.K = KK := by rfl) : OpR X (compareOp .NotIn) (rIn KK true) := h ▸ op_notIn_seq
theorem ix_listK (KK : PySem.W.Frag) (h : X.K = KK := by rfl) : IxR X (rIxL KK) := h ▸ ix_list
theorem ix_tupK (KK : PySem.W.Frag) (h : X.K = KK := by rfl) : IxR X (rIxT KK) := h ▸ ix_tup
def rLenSq (KK : PySem.W.Frag) : List V → Hp → VK → Prop := fun xs H Q => ∃ p ys, xs = [V.ref p] ∧ (SqL KK H p ys ∨ SqT KK H p ys) ∧ Q (.int ys.length) H
theorem call_len_seqK (KK : PySem.W.Frag) (h : X.K = KK := by rfl) : CallR X (.builtin "len") (rLenSq KK) := by subst h; exact call_len_seq
def rTupOf (KK : PySem.W.Frag) : List V → Hp → VK → Prop := fun xs H Q => ∃ p ys, xs = [V.ref p] ∧ ((SqL KK H p ys ∧ ∀ l, H l = none → Q (.ref l) (upd H l (.tup ys))) ∨ (SqT KK H p ys ∧ Q (.ref p) H))
theorem call_tuple_ofK (KK : PySem.W.Frag) (h : X.K = KK := by rfl) : CallR X (.type "tuple") (rTupOf KK) := by subst h; exact call_tuple_of
theorem pe_fldK {f : Str} (KK : PySem.W.Frag) (he : PE X e ta) (hb : attributeBase e f X.env (eval e X.env) = eval e X.env) (h : X.K = KK := by rfl) : PE X (.Attribute e f pos) (tFld KK ta f) := by subst h; exact pe_fld he hb
end
end Oc
-- B1
set_option Elab.async false
set_option linter.all false
set_option maxRecDepth 100000
set_option maxHeartbeats 4000000
/-! What the text's top has left, as far as the defs lean on it. -/
namespace Oc
open PySem PySem.Spec PyProof.Rows L2
structure Txt (K : PySem.W.Frag) (mg : Str → Option Value) : Prop where
  len : mg "len" = none
  range : mg "range" = none
  max : mg "max" = none
  tuple : mg "tuple" = none
  int : mg "int" = none
  abs : mg "abs" = none
  isinst : mg "isinstance" = none
  bool : mg "bool" = none
  str : mg "str" = none
  list : mg "list" = none
  sum : mg "sum" = none
  sorted : mg "sorted" = none
  enumerate : mg "enumerate" = none
  iter : mg "iter" = none
structure PlanC (K : PySem.W.Frag) (C : Addr) : Prop where
  cl : Cls K C
  nW : NoAttr K C "width"
  nC : NoAttr K C "cars"
  nH : NoAttr K C "hours_served"
  fnGet : ∀ f, PySem.W.findIn K (.ref C) "__getitem__" = some (some (.ref f)) → PySem.W.fnIn K f = true
  noSeq : PySem.W.noSeq K C = true
theorem wc : ¬ (("width" : Str) = "cars") := by decide +kernel
theorem wh : ¬ (("width" : Str) = "hours_served") := by decide +kernel
theorem ch : ¬ (("cars" : Str) = "hours_served") := by decide +kernel
theorem beq_no {a b : Str} (h : ¬ a = b) : (a == b) = false := by simpa using h
theorem pf_w (w : Nat) (T S : Addr) : (pfs w T S).lookup ("width" : Str) = some (iv w) := by simp [pfs, List.lookup]
theorem pf_c (w : Nat) (T S : Addr) : (pfs w T S).lookup ("cars" : Str) = some (.ref T) := by
  have h : (("cars" : Str) == ("width" : Str)) = false := beq_no (fun e => wc e.symm)
  simp [pfs, List.lookup, h]
theorem pf_h (w : Nat) (T S : Addr) : (pfs w T S).lookup ("hours_served" : Str) = some (.ref S) := by
  have h : (("hours_served" : Str) == ("width" : Str)) = false := beq_no (fun e => wh e.symm)
  have h2 : (("hours_served" : Str) == ("cars" : Str)) = false := beq_no (fun e => ch e.symm)
  simp [pfs, List.lookup, h, h2]
theorem pf_no (w : Nat) (T S : Addr) {m : Str} (h1 : ¬ m = "width") (h2 : ¬ m = "cars") (h3 : ¬ m = "hours_served") : (pfs w T S).lookup m = none := by
  simp [pfs, List.lookup, beq_no h1, beq_no h2, beq_no h3]
theorem ix_map {α β : Type} {g : α → β} {xs : List α} {i : Nat} {y : β} (h : (xs.map g)[i]? = some y) : ∃ x, xs[i]? = some x ∧ y = g x := by
  rw [List.getElem?_map] at h
  cases e : xs[i]? with
  | none => rw [e] at h; cases h
  | some x => rw [e] at h; exact ⟨x, rfl, (Option.some.inj h).symm⟩
theorem map_ix {α β : Type} {g : α → β} {xs : List α} {i : Nat} {x : α} (h : xs[i]? = some x) : (xs.map g)[i]? = some (g x) := by
  rw [List.getElem?_map, h]
  rfl
theorem lt_of_ix {α : Type} {xs : List α} {i : Nat} {x : α} (h : xs[i]? = some x) : i < xs.length := (List.getElem?_eq_some_iff.mp h).1
theorem take_ix {α : Type} {l : List α} {i : Nat} {x : α} (h : l[i]? = some x) : l.take (i + 1) = l.take i ++ [x] := by
  rw [List.take_add_one, h]
  rfl
/-- a binding of all parameters, by their number -/
theorem sz {n : Nat} (h : n ≤ 1000 := by decide) : n ≤ sizeLine := Nat.le_trans h (by decide)
end Oc
-- L1
set_option Elab.async false
set_option linter.all false
set_option maxRecDepth 100000
set_option maxHeartbeats 4000000
/-! The law's draws. -/
namespace Oc
open PySem PySem.Spec PyProof.Rows L2
section
variable {P : Program} {w : World} {K : PySem.W.Frag} {mg : Str → Option Value} {base : Heap}
/-! ### _law_cell -/
def spCell (K : PySem.W.Frag) : Sp := fun vs H Q _ => ∃ (a : Addr) (ns : List Int) (j : Nat), vs = [.ref a, iv j] ∧ SqL K H a (ns.map V.int) ∧ ∀ z : Int, Q (.int z) H
theorem scCell : FnScope ["_law_script", "_law_at"] ["_law_script", "_law_at"] (defScope sCell) := ⟨rfl, rfl, rfl, by decide +kernel, rfl, by decide +kernel, by decide +kernel⟩
theorem d_cell {f : Addr} {fd : FuncData} (F : Fun K "_law_cell" "_law_cell" sCell f fd) (g : mg "_law_cell" = some (.ref f)) (T : Txt K mg) : DefAt P w K mg base CX0 1 "_law_cell" ["_law_script", "_law_at"] (spCell K) := by
  refine ⟨f, fd, F.ok scCell (fun vs H Q E h => ?_) (fun cdv A outer s H vs Q E hr h => ?_), g, F.kp, F.binds fun _ _ _ _ _ _ us hl => match us, hl with | [_, _], _ => rfl⟩
  · obtain ⟨a, ns, j, rfl, _⟩ := h
    rfl
  · obtain ⟨a, ns, j, rfl, hS, k⟩ := h
    refine ⟨_, (pss_cons (ps_if (pt_cmpR op_lt (pv 1) (pe_callB call_len_seq (by rfl) T.len PySem.boot_len (pa_cons (pv 0) pa_nil)) (nomark _))
        (pss_one (ps_ret (pe_callB call_abs (by rfl) T.abs (by decide +kernel) (pa_cons (pe_callTy call_int1 (by rfl) T.int (by decide +kernel) (pa_cons (pe_ix ix_list (pv 0) (pv 1) (fun _ _ => rfl)) pa_nil)) pa_nil))))
        pss_nil)
      (pss_one (ps_ret pe_int))), ?_⟩
    refine ⟨_, rfl, _, rfl, a, _, rfl, .inl hS, _, _, rfl, rfl, _, rfl, ite2 (fun h => ?_) (fun h => ?_)⟩
    · have hj : j < ns.length := by
        have := of_decide_eq_true h
        rw [List.length_map] at this
        omega
      exact ⟨_, rfl, _, rfl, a, _, _, _, rfl, rfl, hS, atI_nat (map_ix (List.getElem?_eq_getElem hj)), .inl ⟨_, rfl, _, rfl, k _⟩⟩
    · exact k _
/-! ### _law_pool -/
def poolO (x y z : Int) : HO := .lst [.int x, .int y, .int z]
def PoolAt (H : Hp) (p : Addr) : Prop := ∃ x y z, H p = some (poolO x y z)
theorem PoolAt.frm {l : List Addr} {H H' : Hp} {p : Addr} (h : PoolAt H p) (f : Frm l H H') (hn : p ∉ l) : PoolAt H' p := let ⟨x, y, z, e⟩ := h; ⟨x, y, z, f.at e hn⟩
theorem PoolAt.ne {H : Hp} {p q : Addr} (h : PoolAt H p) (hq : H q = none) : q ≠ p := let ⟨_, _, _, e⟩ := h; ne_new e hq
def spPool : Sp := fun vs H Q _ => ∃ z : Int, vs = [.int z] ∧ ∀ p H', Frm [] H H' → H p = none → PoolAt H' p → Q (.ref p) H'
theorem scPool : FnScope ["_law_cell_here"] ["_law_cell_here"] (defScope sPool) := ⟨rfl, rfl, rfl, by decide +kernel, rfl, by decide +kernel, by decide +kernel⟩
theorem d_pool {f : Addr} {fd : FuncData} (F : Fun K "_law_pool" "_law_pool" sPool f fd) (g : mg "_law_pool" = some (.ref f)) : DefAt P w K mg base CX0 1 "_law_pool" ["_law_cell_here"] spPool := by
  refine ⟨f, fd, F.ok scPool (fun vs H Q E h => ?_) (fun cdv A outer s H vs Q E hr h => ?_), g, F.kp, F.binds fun _ _ _ _ _ _ us hl => match us, hl with | [_], _ => rfl⟩
  · obtain ⟨z, rfl, _⟩ := h
    rfl
  · obtain ⟨z, rfl, k⟩ := h
    refine ⟨_, (pss_cons (ps_if (pt_cmpR op_ge (pv 0) (pe_op op_pow pe_int pe_int) (nomark _))
        (pss_one (ps_ret (pe_lst (pa_cons (pv 0) (pa_cons (pv 0) (pa_cons pe_int pa_nil))))))
        pss_nil)
      (pss_one (ps_ret (pe_lst (pa_cons pe_int (pa_cons (pv 0) (pa_cons pe_int pa_nil))))))), ?_⟩
    refine ⟨_, rfl, _, _, rfl, rfl, ⟨by decide, by decide, by decide⟩, _, _, rfl, rfl, _, rfl, ite2 (fun h => ?_) (fun h => ?_)⟩
    · exact ⟨_, rfl, _, rfl, (by show 3 ≤ sizeLine; decide), fun p hp => k p _ (Frm.new hp) hp ⟨_, _, _, upd_same⟩⟩
    · exact ⟨_, rfl, (by show 3 ≤ sizeLine; decide), fun p hp => k p _ (Frm.new hp) hp ⟨_, _, _, upd_same⟩⟩
/-! ### _law_take -/
def spTake : Sp := fun vs H Q _ => ∃ (p : Addr) (m : Nat), vs = [.ref p, iv m] ∧ PoolAt H p ∧ 0 < m ∧ m ≤ 1000 ∧ ∀ (H' : Hp) (d : Nat), d < m → Frm [p] H H' → PoolAt H' p → Q (iv d) H'
theorem scTake : FnScope ["_law_pool_here", "_law_many", "_law_digit", "_law_mixed"] ["_law_pool_here", "_law_many"] (defScope sTake) := ⟨rfl, rfl, rfl, by decide +kernel, rfl, by decide +kernel, by decide +kernel⟩
theorem digit {z : Int} {m : Nat} (h : 0 < m) : ∃ d : Nat, d < m ∧ z % (m : Int) = d := by
  have h1 := Int.emod_nonneg z (show (m : Int) ≠ 0 by omega)
  have h2 := Int.emod_lt_of_pos z (show 0 < (m : Int) by omega)
  exact ⟨(z % (m : Int)).toNat, by omega, by omega⟩
theorem d_take {f : Addr} {fd : FuncData} (F : Fun K "_law_take" "_law_take" sTake f fd) (g : mg "_law_take" = some (.ref f)) (T : Txt K mg) : DefAt P w K mg base CX0 1 "_law_take" ["_law_pool_here", "_law_many"] spTake := by
  have nd := scTake.nd
  refine ⟨f, fd, F.ok scTake (fun vs H Q E h => ?_) (fun cdv A outer s H vs Q E hr h => ?_), g, F.kp, F.binds fun _ _ _ _ _ _ us hl => match us, hl with | [_, _], _ => rfl⟩
  · obtain ⟨p, m, rfl, _⟩ := h
    rfl
  · obtain ⟨p, m, rfl, ⟨x, y, z, hp⟩, m0, m1, k⟩ := h
    refine ⟨_, (pss_cons (ps_asg (pe_op op_add (pe_ix ix_list (pv 0) pe_int (fun _ _ => rfl)) pe_int) (pg_sub (pv 0) pe_int set_list))
      (pss_cons (ps_if (pt_cmpR op_gt (pe_ix ix_list (pv 0) pe_int (fun _ _ => rfl)) pe_int (nomark _))
        (pss_cons (ps_set (i := 2) nd rfl (.inl rfl) (pe_op op_mod (pe_callTy call_int1 (by rfl) T.int (by decide +kernel) (pa_cons (pe_ix ix_list (pv 0) pe_int (fun _ _ => rfl)) pa_nil)) (pv 1)))
        (pss_cons (ps_asg (pe_op op_fdiv (pe_ix ix_list (pv 0) pe_int (fun _ _ => rfl)) (pv 1)) (pg_sub (pv 0) pe_int set_list))
        (pss_one (ps_ret (pv 2)))))
        pss_nil)
      (pss_cons (ps_set (i := 3) nd rfl (.inl rfl) (pe_op op_mod (pe_callTy call_int1 (by rfl) T.int (by decide +kernel) (pa_cons (pe_op op_mul (pe_op op_add (pe_ix ix_list (pv 0) pe_int (fun _ _ => rfl)) (pe_op op_mul pe_int (pe_ix ix_list (pv 0) pe_int (fun _ _ => rfl)))) pe_int) pa_nil)) pe_int))
      (pss_cons (ps_set (i := 3) nd rfl (.inl rfl) (pe_op op_mod (pe_callTy call_int1 (by rfl) T.int (by decide +kernel) (pa_cons (pe_op op_add (pe_op op_mul (pv 3) pe_int) (pe_op op_mul pe_int (pe_ix ix_list (pv 0) pe_int (fun _ _ => rfl)))) pa_nil)) pe_int))
      (pss_one (ps_ret (pe_op op_mod (pe_callTy call_int1 (by rfl) T.int (by decide +kernel) (pa_cons (pe_op op_fdiv (pv 3) pe_int) pa_nil)) (pv 1)))))))), ?_⟩
    have i0 : ∀ {H' : Hp} {x y z : Int}, H' p = some (poolO x y z) → SqL K H' p [.int x, .int y, .int z] := fun h => SqL.of h
    have h1 : upd H p (poolO x y (z + 1)) p = some (poolO x y (z + 1)) := upd_same
    refine ⟨_, rfl, p, _, 2, _, rfl, rfl, i0 hp, atI_nat (j := 2) rfl, _, _, rfl, rfl, _, rfl, p, _, 2, 2, rfl, rfl, hp, rfl, ?_⟩
    refine ⟨_, rfl, p, _, 0, _, rfl, rfl, i0 h1, atI_nat (j := 0) rfl, _, _, rfl, rfl, _, rfl, ite2 (fun h => ?_) (fun h => ?_)⟩
    · refine ⟨_, rfl, p, _, 0, _, rfl, rfl, i0 h1, atI_nat (j := 0) rfl, .inl ⟨_, rfl, _, rfl, _, _, rfl, rfl, (by omega), ?_⟩⟩
      refine ⟨_, rfl, p, _, 0, _, rfl, rfl, i0 h1, atI_nat (j := 0) rfl, _, rfl, _, _, rfl, rfl, ⟨by omega, by omega⟩, _, rfl, p, _, 0, 0, rfl, rfl, h1, rfl, _, rfl, ?_⟩
      obtain ⟨d, hd, e⟩ := digit (z := x) m0
      show Q (V.int (x % (m : Int))) (upd (upd H p (poolO x y (z + 1))) p (poolO (x / (m : Int)) y (z + 1)))
      rw [e, upd_upd]
      exact k _ d hd (Frm.set (List.mem_singleton.mpr rfl) hp) ⟨_, _, _, upd_same⟩
    · refine ⟨_, rfl, p, _, 1, _, rfl, rfl, i0 h1, atI_nat (j := 1) rfl, _, rfl, p, _, 2, _, rfl, rfl, i0 h1, atI_nat (j := 2) rfl, _, _, rfl, rfl, .inl ⟨by decide, by decide⟩, _, _, rfl, rfl, _, _, rfl, rfl, .inr ⟨by decide, by decide⟩, .inl ⟨_, rfl, _, _, rfl, rfl, (by show (0 : Int) < 2147483647; decide), ?_⟩⟩
      refine ⟨_, rfl, _, _, rfl, rfl, .inr ⟨by decide, by decide⟩, _, rfl, p, _, 2, _, rfl, rfl, i0 h1, atI_nat (j := 2) rfl, _, _, rfl, rfl, .inl ⟨by decide, by decide⟩, _, _, rfl, rfl, .inl ⟨_, rfl, _, _, rfl, rfl, (by show (0 : Int) < 2147483399; decide), ?_⟩⟩
      refine ⟨_, rfl, _, _, rfl, rfl, ⟨by decide, by decide⟩, .inl ⟨_, rfl, _, rfl, _, _, rfl, rfl, (by omega), ?_⟩⟩
      obtain ⟨d, hd, e⟩ := digit (z := ((((y + 7919 * (z + 1)) * 48271) % 2147483647 * 69621 + 40692 * (z + 1)) % 2147483399) / 7) m0
      show Q (V.int (((((y + 7919 * (z + 1)) * 48271) % 2147483647 * 69621 + 40692 * (z + 1)) % 2147483399) / 7 % (m : Int))) (upd H p (poolO x y (z + 1)))
      rw [e]
      exact k _ d hd (Frm.set (List.mem_singleton.mpr rfl) hp) ⟨_, _, _, upd_same⟩
end
end Oc
-- L2
set_option Elab.async false
set_option linter.all false
set_option maxRecDepth 100000
set_option maxHeartbeats 4000000
/-! The law's days. -/
namespace Oc
open PySem PySem.Spec PyProof.Rows L2
section
variable {P : Program} {w : World} {K : PySem.W.Frag} {mg : Str → Option Value} {base : Heap}
theorem not1 {a b : Addr} (h : a ≠ b) : a ∉ [b] := fun z => h (List.mem_singleton.mp z)
abbrev DTake (P : Program) (w : World) (K : PySem.W.Frag) (mg : Str → Option Value) (base : Heap) : Prop := DefAt P w K mg base CX0 1 "_law_take" ["_law_pool_here", "_law_many"] spTake
/-! ### _law_day -/
def spDay : Sp := fun vs H Q _ => ∃ (p : Addr) (m lat lon : Nat), vs = [.ref p, iv m, iv lat, iv lon] ∧ PoolAt H p ∧ m ≤ 14 ∧ lat ≤ 60 ∧ 1 ≤ lon ∧ lon ≤ 12 ∧
  ∀ (H' : Hp) (L : Addr) (cas : List Addr) (cars : List Car), cars.length = m → (∀ c ∈ cars, CarOk c) → Frm [p] H H' → PoolAt H' p → CarsL H' L cas cars → H L = none → Q (.ref L) H'
theorem scDay : FnScope ["_law_pool_here", "_law_many", "_law_latest", "_law_longest", "_law_cars", "_law_k", "_law_come", "_law_stay"] ["_law_pool_here", "_law_many", "_law_latest", "_law_longest"] (defScope sDay) := ⟨rfl, rfl, rfl, by decide +kernel, rfl, by decide +kernel, by decide +kernel⟩
theorem d_day {f : Addr} {fd : FuncData} (F : Fun K "_law_day" "_law_day" sDay f fd) (g : mg "_law_day" = some (.ref f)) (T : Txt K mg) (D : DTake P w K mg base) :
    DefAt P w K mg base CX0 2 "_law_day" ["_law_pool_here", "_law_many", "_law_latest", "_law_longest"] spDay := by
  have nd := scDay.nd
  refine ⟨f, fd, F.ok scDay (fun vs H Q E h => ?_) (fun cdv A outer s H vs Q E hr h => ?_), g, F.kp, F.binds fun _ _ _ _ _ _ us hl => match us, hl with | [_, _, _, _], _ => rfl⟩
  · obtain ⟨p, m, lat, lon, rfl, _⟩ := h
    rfl
  · obtain ⟨p, m, lat, lon, rfl, hp, hm, h60, l1, l2, k⟩ := h
    refine ⟨_, (pss_cons (ps_set (i := 4) nd rfl (.inl rfl) (pe_lst pa_nil))
      (pss_cons (ps_for PassesOwn.never rfl (pi_range1 rfl T.range (pa_cons (pv 1) pa_nil)) (pg_name (i := 5) nd rfl (.inl rfl))
        (pss_cons (ps_set (i := 6) nd rfl (.inl rfl) (pe_def D hr pass0 (pa_cons (pv 0) (pa_cons (pe_op op_add (pv 2) pe_int) pa_nil))))
        (pss_cons (ps_set (i := 7) nd rfl (.inl rfl) (pe_op op_add pe_int (pe_def D hr pass0 (pa_cons (pv 0) (pa_cons (pv 3) pa_nil)))))
        (pss_one (ps_expr (pe_bm PySem.F.plainAttrs_list PySem.F.slot_list_append PySem.F.type_list_append mt_append (pv 4) (pa_cons (pe_tup (pa_cons (pv 6) (pa_cons (pv 7) (pa_cons (pe_op op_add pe_int (pe_def D hr pass0 (pa_cons (pv 0) (pa_cons (pv 7) pa_nil)))) pa_nil)))) pa_nil)))))))
      (pss_one (ps_ret (pv 4))))), ?_⟩
    refine ⟨Nat.zero_le _, fun L hL => ?_⟩
    have nLp : L ≠ p := hp.ne hL
    refine ⟨_, rfl, m, rfl, by omega, by omega, for_range (lo := 0) (n := m) (fun i σ H' => ∃ (cas : List Addr) (cars : List Car) (v5 v6 v7 : Option V), σ = [some (.ref p), some (iv m), some (iv lat), some (iv lon), some (.ref L), v5, v6, v7] ∧ cars.length = i ∧ (∀ c ∈ cars, CarOk c) ∧ Frm [p] H H' ∧ PoolAt H' p ∧ CarsL H' L cas cars)
      ⟨[], [], none, none, none, rfl, rfl, (fun c hc => by cases hc), Frm.new hL, hp.frm (Frm.new (l := []) hL) (by simp), upd_same, Objs.nil⟩ ?_ ?_⟩
    · rintro i σ H1 hi ⟨cas, cars, v5, v6, v7, rfl, hlen, hok, f1, hp1, hC⟩
      refine ⟨_, rfl, _, rfl, _, _, rfl, rfl, p, lat + 1, rfl, hp1, by omega, by omega, fun H2 d2 hd2 f2 hp2 => ?_⟩
      refine ⟨_, rfl, _, rfl, p, lon, rfl, hp2, by omega, by omega, fun H3 d3 hd3 f3 hp3 => ?_⟩
      refine ⟨_, _, rfl, rfl, ?_⟩
      have hC3 : CarsL H3 L cas cars := (hC.frm f2 (not1 nLp)).frm f3 (not1 nLp)
      refine ⟨_, rfl, .inl ⟨rfl, _, SqL.of hC3.1⟩, _, rfl, _, rfl, _, rfl, _, rfl, p, 1 + d3, (by show [V.ref p, V.int (1 + (d3 : Int))] = [V.ref p, V.int ((1 + d3 : Nat) : Int)]; rw [Int.natCast_add]; rfl), hp3, by omega, by omega, fun H4 d4 hd4 f4 hp4 => ?_⟩
      have hC4 : CarsL H4 L cas cars := hC3.frm f4 (not1 nLp)
      refine ⟨_, _, rfl, rfl, (by show 3 ≤ sizeLine; decide), fun t ht => ?_⟩
      have ntL : t ≠ L := ne_new hC4.1 ht
      have ntp : t ≠ p := hp4.ne ht
      have eL : upd H4 t (.tup [iv d2, V.int (1 + (d3 : Int)), V.int (1 + (d4 : Int))]) L = some (.lst (refs cas)) := by rw [upd_ne ntL.symm]; exact hC4.1
      have hlc : cas.length = i := by rw [hC4.2.1, List.length_map]; exact hlen
      refine ⟨L, _, _, rfl, rfl, eL, small1000 (by rw [List.length_map]; omega), ?_⟩
      have e1 : (.tup [iv d2, V.int (1 + (d3 : Int)), V.int (1 + (d4 : Int))] : HO) = carO (d2, 1 + d3, 1 + d4) := by
        show HO.tup [V.int d2, V.int (1 + (d3 : Int)), V.int (1 + (d4 : Int))] = HO.tup [V.int d2, V.int ((1 + d3 : Nat) : Int), V.int ((1 + d4 : Nat) : Int)]
        rw [Int.natCast_add, Int.natCast_add]
        rfl
      have fT : Frm [L] H4 (upd (upd H4 t (.tup [iv d2, V.int (1 + (d3 : Int)), V.int (1 + (d4 : Int))])) L (.lst (refs cas ++ [.ref t]))) := (Frm.new ht).trans (Frm.set (List.mem_singleton.mpr rfl) eL)
      refine ⟨cas ++ [t], cars ++ [(d2, 1 + d3, 1 + d4)], _, _, _, rfl, by rw [List.length_append]; show cars.length + 1 = i + 1; omega, fun c hc => ?_, (((f1.trans f2).trans f3).trans f4 |>.trans (Frm.new ht)).put hL, ?_, ?_, ?_⟩
      · rcases List.mem_append.mp hc with q | q
        · exact hok c q
        · rw [List.mem_singleton.mp q]
          exact ⟨by show d2 ≤ 60; omega, by show 1 ≤ 1 + d3; omega, by show 1 + d3 ≤ 12; omega, by show 1 ≤ 1 + d4; omega, by show 1 + d4 ≤ 1 + d3; omega⟩
      · exact hp4.frm fT (not1 nLp.symm)
      · rw [upd_same]
        show some (HO.lst (cas.map V.ref ++ [.ref t])) = some (.lst ((cas ++ [t]).map V.ref))
        rw [List.map_append]
        rfl
      · rw [List.map_append]
        refine Objs.snoc (hC4.2.frmT fT) ?_
        rw [upd_ne ntL, upd_same, e1]
    · rintro σ H1 ⟨cas, cars, v5, v6, v7, rfl, hlen, hok, f1, hp1, hC⟩
      exact ⟨_, rfl, k H1 L cas cars hlen hok f1 hp1 hC hL⟩
abbrev DDay (P : Program) (w : World) (K : PySem.W.Frag) (mg : Str → Option Value) (base : Heap) : Prop := DefAt P w K mg base CX0 2 "_law_day" ["_law_pool_here", "_law_many", "_law_latest", "_law_longest"] spDay
/-! ### _law_lot -/
def spLot : Sp := fun vs H Q _ => ∃ (p : Addr), vs = [.ref p, .int 8] ∧ PoolAt H p ∧
  ∀ (H' : Hp) (L : Addr) (cas : List Addr) (cars : List Car), cars.length ≤ 8 → (∀ c ∈ cars, CarOk c) → Frm [p] H H' → PoolAt H' p → CarsL H' L cas cars → H L = none → Q (.ref L) H'
theorem scLot : FnScope ["_law_pool_here", "_law_most", "_law_many", "_law_latest", "_law_longest"] ["_law_pool_here", "_law_most"] (defScope sLot) := ⟨rfl, rfl, rfl, by decide +kernel, rfl, by decide +kernel, by decide +kernel⟩
theorem four {a b c d : Nat} {j : Nat} (h : j < 4) : ∃ n, [iv a, iv b, iv c, iv d][j]? = some (iv n) ∧ n ∈ [a, b, c, d] := by
  match j, h with
  | 0, _ => exact ⟨a, rfl, by simp⟩
  | 1, _ => exact ⟨b, rfl, by simp⟩
  | 2, _ => exact ⟨c, rfl, by simp⟩
  | 3, _ => exact ⟨d, rfl, by simp⟩
theorem d_lot {f : Addr} {fd : FuncData} (F : Fun K "_law_lot" "_law_lot" sLot f fd) (g : mg "_law_lot" = some (.ref f)) (D : DTake P w K mg base) (DD : DDay P w K mg base) :
    DefAt P w K mg base CX0 3 "_law_lot" ["_law_pool_here", "_law_most"] spLot := by
  have nd := scLot.nd
  refine ⟨f, fd, F.ok scLot (fun vs H Q E h => ?_) (fun cdv A outer s H vs Q E hr h => ?_), g, F.kp, F.binds fun _ _ _ _ _ _ us hl => match us, hl with | [_, _], _ => rfl⟩
  · obtain ⟨p, rfl, _⟩ := h
    rfl
  · obtain ⟨p, rfl, hp, k⟩ := h
    have hr1 : Room 1 _ := hr.mono (by decide)
    refine ⟨_, (pss_cons (ps_set (i := 2) nd rfl (.inl rfl) (pe_def D hr1 pass0 (pa_cons (pv 0) (pa_cons (pe_op op_add (pv 1) pe_int) pa_nil))))
      (pss_cons (ps_set (i := 3) nd rfl (.inl rfl) (pe_ix ix_list (pe_lst (pa_cons pe_int (pa_cons pe_int (pa_cons pe_int (pa_cons pe_int pa_nil))))) (pe_def D hr1 pass0 (pa_cons (pv 0) (pa_cons pe_int pa_nil))) (fun _ _ => rfl)))
      (pss_cons (ps_set (i := 4) nd rfl (.inl rfl) (pe_ix ix_list (pe_lst (pa_cons pe_int (pa_cons pe_int (pa_cons pe_int (pa_cons pe_int pa_nil))))) (pe_def D hr1 pass0 (pa_cons (pv 0) (pa_cons pe_int pa_nil))) (fun _ _ => rfl)))
      (pss_one (ps_ret (pe_def DD hr pass0 (pa_cons (pv 0) (pa_cons (pv 2) (pa_cons (pv 3) (pa_cons (pv 4) pa_nil)))))))))), ?_⟩
    refine ⟨_, rfl, _, rfl, _, _, rfl, rfl, p, 9, rfl, hp, by decide, by decide, fun H1 d1 hd1 f1 hp1 => ?_⟩
    refine ⟨(by show 4 ≤ sizeLine; decide), fun l1 hl1 => ?_⟩
    have hp1' := hp1.frm (Frm.new (l := []) (o := .lst [iv 60, iv 12, iv 5, iv 2]) hl1) (by simp)
    refine ⟨_, rfl, p, 4, rfl, hp1', by decide, by decide, fun H2 d2 hd2 f2 hp2 => ?_⟩
    obtain ⟨n2, e2, m2⟩ := four (a := 60) (b := 12) (c := 5) (d := 2) hd2
    refine ⟨l1, _, _, _, rfl, rfl, SqL.of (f2.at upd_same (not1 (hp1.ne hl1))), atI_nat e2, ?_⟩
    refine ⟨(by show 4 ≤ sizeLine; decide), fun l3 hl3 => ?_⟩
    have hp2' := hp2.frm (Frm.new (l := []) (o := .lst [iv 12, iv 8, iv 5, iv 3]) hl3) (by simp)
    refine ⟨_, rfl, p, 4, rfl, hp2', by decide, by decide, fun H3 d3 hd3 f3 hp3 => ?_⟩
    obtain ⟨n3, e3, m3⟩ := four (a := 12) (b := 8) (c := 5) (d := 3) hd3
    refine ⟨l3, _, _, _, rfl, rfl, SqL.of (f3.at upd_same (not1 (hp2.ne hl3))), atI_nat e3, ?_⟩
    have fA : Frm [p] H H3 := (((f1.trans (Frm.new hl1)).trans f2).trans (Frm.new hl3)).trans f3
    have b2 : n2 ≤ 60 := by
      simp at m2
      omega
    have b3 : 1 ≤ n3 ∧ n3 ≤ 12 := by
      simp at m3
      omega
    refine ⟨_, rfl, _, rfl, _, rfl, _, rfl, p, d1, n2, n3, rfl, hp3, by omega, b2, b3.1, b3.2, fun H' L cas cars hl hok f4 hp4 hC hL => ?_⟩
    exact k H' L cas cars (by omega) hok (fA.trans f4) hp4 hC (fA.free hL)
/-! ### _law_room -/
def spRoomL : Sp := fun vs H Q _ => ∃ (p : Addr), vs = [.ref p] ∧ PoolAt H p ∧ ∀ (H' : Hp) (d : Nat), 1 ≤ d → d ≤ 12 → Frm [p] H H' → PoolAt H' p → Q (iv d) H'
theorem scRoomL : FnScope ["_law_pool_here"] ["_law_pool_here"] (defScope sRoomL) := ⟨rfl, rfl, rfl, by decide +kernel, rfl, by decide +kernel, by decide +kernel⟩
theorem d_roomL {f : Addr} {fd : FuncData} (F : Fun K "_law_room" "_law_room" sRoomL f fd) (g : mg "_law_room" = some (.ref f)) (D : DTake P w K mg base) : DefAt P w K mg base CX0 2 "_law_room" ["_law_pool_here"] spRoomL := by
  refine ⟨f, fd, F.ok scRoomL (fun vs H Q E h => ?_) (fun cdv A outer s H vs Q E hr h => ?_), g, F.kp, F.binds fun _ _ _ _ _ _ us hl => match us, hl with | [_], _ => rfl⟩
  · obtain ⟨p, rfl, _⟩ := h
    rfl
  · obtain ⟨p, rfl, hp, k⟩ := h
    refine ⟨_, (pss_one (ps_ret (pe_op op_add pe_int (pe_def D hr pass0 (pa_cons (pv 0) (pa_cons (pe_ix ix_list (pe_lst (pa_cons pe_int (pa_cons pe_int (pa_cons pe_int (pa_cons pe_int pa_nil))))) (pe_def D hr pass0 (pa_cons (pv 0) (pa_cons pe_int pa_nil))) (fun _ _ => rfl)) pa_nil)))))), ?_⟩
    refine ⟨_, rfl, (by show 4 ≤ sizeLine; decide), fun l1 hl1 => ?_⟩
    have hp1' := hp.frm (Frm.new (l := []) (o := .lst [iv 12, iv 4, iv 3, iv 2]) hl1) (by simp)
    refine ⟨_, rfl, p, 4, rfl, hp1', by decide, by decide, fun H2 d2 hd2 f2 hp2 => ?_⟩
    obtain ⟨n2, e2, m2⟩ := four (a := 12) (b := 4) (c := 3) (d := 2) hd2
    refine ⟨l1, _, _, _, rfl, rfl, SqL.of (f2.at upd_same (not1 (hp.ne hl1))), atI_nat e2, ?_⟩
    have b2 : 1 ≤ n2 ∧ n2 ≤ 12 := by
      simp at m2
      omega
    refine ⟨p, n2, rfl, hp2, by omega, by omega, fun H3 d3 hd3 f3 hp3 => ?_⟩
    refine ⟨_, _, rfl, rfl, ?_⟩
    have q := k H3 (1 + d3) (by omega) (by omega) (((Frm.new hl1).trans f2).trans f3) hp3
    have e : iv (1 + d3) = V.int (1 + (d3 : Int)) := by
      show V.int ((1 + d3 : Nat) : Int) = _
      rw [Int.natCast_add]
      rfl
    rw [e] at q
    exact q
end
end Oc
-- M0
set_option Elab.async false
set_option linter.all false
set_option maxHeartbeats 4000000
/-! Plain mathematics: days, plans, how often a car is served. -/
namespace Oc
open PySem L2
def hoursOf (cars : List Car) : Nat := cars.foldl (fun m c => max m (c.1 + c.2.1)) 0
theorem foldl_ge : ∀ (cars : List Car) (z : Nat), z ≤ cars.foldl (fun m c => max m (c.1 + c.2.1)) z ∧ ∀ c ∈ cars, c.1 + c.2.1 ≤ cars.foldl (fun m c => max m (c.1 + c.2.1)) z
  | [], z => ⟨Nat.le_refl _, fun c hc => by cases hc⟩
  | d :: r, z => by
    obtain ⟨h1, h2⟩ := foldl_ge r (max z (d.1 + d.2.1))
    refine ⟨Nat.le_trans (Nat.le_max_left _ _) h1, fun c hc => ?_⟩
    rcases List.mem_cons.mp hc with e | e
    · subst e
      exact Nat.le_trans (Nat.le_max_right _ _) h1
    · exact h2 c e
theorem foldl_at : ∀ (cars : List Car) (z : Nat), cars.foldl (fun m c => max m (c.1 + c.2.1)) z = z ∨ ∃ c ∈ cars, cars.foldl (fun m c => max m (c.1 + c.2.1)) z = c.1 + c.2.1
  | [], z => .inl rfl
  | d :: r, z => by
    rcases foldl_at r (max z (d.1 + d.2.1)) with h | ⟨c, hc, h⟩
    · rcases Nat.le_total z (d.1 + d.2.1) with q | q
      · refine .inr ⟨d, List.mem_cons_self, ?_⟩
        show r.foldl _ (max z (d.1 + d.2.1)) = _
        rw [h]
        omega
      · refine .inl ?_
        show r.foldl _ (max z (d.1 + d.2.1)) = _
        rw [h]
        omega
    · exact .inr ⟨c, List.mem_cons_of_mem _ hc, h⟩
theorem hoursOf_ge {cars : List Car} {c : Car} (h : c ∈ cars) : c.1 + c.2.1 ≤ hoursOf cars := (foldl_ge cars 0).2 c h
theorem hoursOf_le {cars : List Car} {n : Nat} (h : ∀ c ∈ cars, c.1 + c.2.1 ≤ n) : hoursOf cars ≤ n := by
  rcases foldl_at cars 0 with e | ⟨c, hc, e⟩
  · show cars.foldl _ 0 ≤ n
    rw [e]
    exact Nat.zero_le _
  · show cars.foldl _ 0 ≤ n
    rw [e]
    exact h c hc
theorem hoursOf_72 {cars : List Car} (h : ∀ c ∈ cars, CarOk c) : hoursOf cars ≤ 72 := hoursOf_le fun c hc => by
  have := h c hc
  have := this.come
  have := (h c hc).s2
  omega
theorem hoursOf_take {cars : List Car} {i : Nat} {c : Car} (h : cars[i]? = some c) : hoursOf (cars.take (i + 1)) = max (hoursOf (cars.take i)) (c.1 + c.2.1) := by
  unfold hoursOf
  rw [List.take_add_one, h, List.foldl_append]
  rfl
/-- in how many rows the number stands -/
def gotN (rows : List (List Nat)) (k : Nat) : Nat := (rows.filter fun r => decide (k ∈ r)).length
theorem gotN_nil (k : Nat) : gotN [] k = 0 := rfl
theorem gotN_cons (r : List Nat) (rows : List (List Nat)) (k : Nat) : gotN (r :: rows) k = (if k ∈ r then 1 else 0) + gotN rows k := by
  unfold gotN
  by_cases h : k ∈ r
  · rw [List.filter_cons_of_pos (by simpa using h), if_pos h, List.length_cons]
    omega
  · rw [List.filter_cons_of_neg (by simpa using h), if_neg h]
    omega
theorem gotN_append (a b : List (List Nat)) (k : Nat) : gotN (a ++ b) k = gotN a k + gotN b k := by
  unfold gotN
  rw [List.filter_append, List.length_append]
theorem gotN_one (r : List Nat) (k : Nat) : gotN [r] k = if k ∈ r then 1 else 0 := by
  rw [gotN_cons, gotN_nil, Nat.add_zero]
theorem gotN_take {rows : List (List Nat)} {i : Nat} {r : List Nat} (h : rows[i]? = some r) (k : Nat) : gotN (rows.take (i + 1)) k = gotN (rows.take i) k + if k ∈ r then 1 else 0 := by
  rw [List.take_add_one, h, gotN_append]
  show _ + gotN [r] k = _
  rw [gotN_one]
theorem gotN_le (rows : List (List Nat)) (k : Nat) : gotN rows k ≤ rows.length := List.length_filter_le _ _
theorem gotN_set {rows : List (List Nat)} {h : Nat} {r : List Nat} (e : rows[h]? = some r) (r' : List Nat) (k : Nat) : gotN (rows.set h r') k + (if k ∈ r then 1 else 0) = gotN rows k + (if k ∈ r' then 1 else 0) := by
  induction rows generalizing h with
  | nil => simp at e
  | cons a rows ih =>
    cases h with
    | zero =>
      have : a = r := Option.some.inj e
      subst this
      show gotN (r' :: rows) k + _ = gotN (a :: rows) k + _
      rw [gotN_cons, gotN_cons]
      omega
    | succ h =>
      have := ih (h := h) e
      show gotN (a :: rows.set h r') k + _ = gotN (a :: rows) k + _
      rw [gotN_cons, gotN_cons]
      omega
theorem gotN_but {rows : List (List Nat)} {h : Nat} {r : List Nat} (e : rows[h]? = some r) (k : Nat) : gotN (rows.take h ++ rows.drop (h + 1)) k + (if k ∈ r then 1 else 0) = gotN rows k := by
  have q : rows = rows.take h ++ (r :: rows.drop (h + 1)) := by
    have hl := (List.getElem?_eq_some_iff.mp e)
    obtain ⟨h1, h2⟩ := hl
    rw [← h2, List.getElem_cons_drop, List.take_append_drop]
  rw [gotN_append]
  conv => rhs; rw [q]
  rw [gotN_append, gotN_cons]
  omega
/-- the law's membership of numbers -/
theorem inV_iv (k : Nat) (r : List Nat) : inV (iv k) (r.map iv) = decide (k ∈ r) := by
  unfold inV
  rw [List.any_map]
  induction r with
  | nil => rfl
  | cons a r ih =>
    rw [List.any_cons, ih]
    show (((a : Int) == (k : Int)) || decide (k ∈ r)) = decide (k ∈ a :: r)
    by_cases h : a = k
    · subst h; simp
    · have h1 : ((a : Int) == (k : Int)) = false := by simpa using (by omega : ¬ (a : Int) = k)
      have h2 : ¬ k = a := fun e => h e.symm
      rw [h1]
      simp [h2]
theorem flat_iv (r : List Nat) : (r.map iv).all flatV = true := by
  induction r with
  | nil => rfl
  | cons a r ih => rw [List.map_cons, List.all_cons, ih]; rfl
end Oc
-- L3
set_option Elab.async false
set_option linter.all false
set_option maxRecDepth 100000
set_option maxHeartbeats 4000000
/-! The law's readers. -/
namespace Oc
open PySem PySem.Spec PyProof.Rows L2
section
variable {P : Program} {w : World} {K : PySem.W.Frag} {mg : Str → Option Value} {base : Heap}
/-! ### _law_hours -/
def spHours : Sp := fun vs H Q _ => ∃ (L : Addr) (cas : List Addr) (cars : List Car), vs = [.ref L] ∧ CarsL H L cas cars ∧ Q (iv (hoursOf cars)) H
theorem scHours : FnScope ["_law_cars", "_law_hours_here", "_law_car"] ["_law_cars"] (defScope sHours) := ⟨rfl, rfl, rfl, by decide +kernel, rfl, by decide +kernel, by decide +kernel⟩
theorem d_hours {f : Addr} {fd : FuncData} (F : Fun K "_law_hours" "_law_hours" sHours f fd) (g : mg "_law_hours" = some (.ref f)) : DefAt P w K mg base CX0 1 "_law_hours" ["_law_cars"] spHours := by
  have nd := scHours.nd
  refine ⟨f, fd, F.ok scHours (fun vs H Q E h => ?_) (fun cdv A outer s H vs Q E hr h => ?_), g, F.kp, F.binds fun _ _ _ _ _ _ us hl => match us, hl with | [_], _ => rfl⟩
  · obtain ⟨L, cas, cars, rfl, _⟩ := h
    rfl
  · obtain ⟨L, cas, cars, rfl, hC, k⟩ := h
    refine ⟨_, (pss_cons (ps_set (i := 1) nd rfl (.inl rfl) pe_int)
      (pss_cons (ps_for PassesOwn.never rfl (pi_list (pv 0)) (pg_name (i := 2) nd rfl (.inl rfl))
        (pss_one (ps_if (pt_cmpR op_gt (pe_op op_add (pe_ix ix_tup (pv 2) pe_int (fun _ _ => rfl)) (pe_ix ix_tup (pv 2) pe_int (fun _ _ => rfl))) (pv 1) (nomark _))
          (pss_one (ps_set (i := 1) nd rfl (.inl rfl) (pe_op op_add (pe_ix ix_tup (pv 2) pe_int (fun _ _ => rfl)) (pe_ix ix_tup (pv 2) pe_int (fun _ _ => rfl)))))
          pss_nil)))
      (pss_one (ps_ret (pv 1))))), ?_⟩
    refine ⟨_, rfl, L, rfl, ⟨_, SqL.of hC.1⟩, for_list (K := K) (a := L) (xs := refs cas) (fun i σ H' => ∃ (v : Option V), σ = [some (.ref L), some (iv (hoursOf (cars.take i))), v] ∧ H' = H) ⟨none, rfl, rfl⟩ (fun i σ H' _ ⟨_, _, e⟩ => by rw [e]; exact SqL.of hC.1) ?_ ?_⟩
    · rintro i y σ H' hi ⟨v, rfl, rfl⟩
      obtain ⟨a, ha, rfl⟩ := ix_map hi
      obtain ⟨o, ho, ea⟩ := hC.2.of ha
      obtain ⟨c, hc, rfl⟩ := ix_map ho
      have st := hoursOf_take hc
      have hT : SqT K H' a [iv c.1, iv c.2.1, iv c.2.2] := SqT.of ea
      refine ⟨_, rfl, a, _, 0, _, rfl, rfl, hT, atI_nat (j := 0) rfl, _, rfl, a, _, 1, _, rfl, rfl, hT, atI_nat (j := 1) rfl, _, _, rfl, rfl, _, rfl, _, _, rfl, rfl, _, rfl, ite2 (fun h => ?_) (fun h => ?_)⟩
      · have h' : ((hoursOf (cars.take i) : Nat) : Int) < (c.1 : Int) + (c.2.1 : Int) := of_decide_eq_true h
        refine ⟨_, rfl, a, _, 0, _, rfl, rfl, hT, atI_nat (j := 0) rfl, _, rfl, a, _, 1, _, rfl, rfl, hT, atI_nat (j := 1) rfl, _, _, rfl, rfl, ?_⟩
        refine ⟨some (.ref a), ?_, rfl⟩
        rw [st, show max (hoursOf (cars.take i)) (c.1 + c.2.1) = c.1 + c.2.1 by omega]
        show _ = [some (V.ref L), some (V.int ((c.1 + c.2.1 : Nat) : Int)), some (.ref a)]
        rw [Int.natCast_add]
        rfl
      · have h' : ¬ ((hoursOf (cars.take i) : Nat) : Int) < (c.1 : Int) + (c.2.1 : Int) := fun q => h (decide_eq_true q)
        refine ⟨some (.ref a), ?_, rfl⟩
        rw [st, show max (hoursOf (cars.take i)) (c.1 + c.2.1) = hoursOf (cars.take i) by omega]
        rfl
    · rintro σ H' ⟨v, rfl, rfl⟩
      have hl : (refs cas).length = cars.length := by rw [List.length_map, hC.2.1, List.length_map]
      rw [hl, List.take_length]
      exact ⟨_, rfl, k⟩
/-! ### _law_there -/
def spThere : Sp := fun vs H Q _ => ∃ (a : Addr) (c : Car) (h : Nat), vs = [.ref a, iv h] ∧ H a = some (carO c) ∧ Q (.bl (decide (c.1 ≤ h ∧ h < c.1 + c.2.1))) H
theorem scThere : FnScope ["_law_car", "_law_hour"] ["_law_car", "_law_hour"] (defScope sThere) := ⟨rfl, rfl, rfl, by decide +kernel, rfl, by decide +kernel, by decide +kernel⟩
theorem d_there {f : Addr} {fd : FuncData} (F : Fun K "_law_there" "_law_there" sThere f fd) (g : mg "_law_there" = some (.ref f)) : DefAt P w K mg base CX0 1 "_law_there" ["_law_car", "_law_hour"] spThere := by
  refine ⟨f, fd, F.ok scThere (fun vs H Q E h => ?_) (fun cdv A outer s H vs Q E hr h => ?_), g, F.kp, F.binds fun _ _ _ _ _ _ us hl => match us, hl with | [_, _], _ => rfl⟩
  · obtain ⟨a, c, h, rfl, _⟩ := h
    rfl
  · obtain ⟨a, c, h, rfl, ea, k⟩ := h
    refine ⟨_, (pss_one (ps_ret (pe_and (pe_cmpR op_le (pe_ix ix_tup (pv 0) pe_int (fun _ _ => rfl)) (pv 1) (nomark _)) (pe_one (pe_cmpR op_lt (pv 1) (pe_op op_add (pe_ix ix_tup (pv 0) pe_int (fun _ _ => rfl)) (pe_ix ix_tup (pv 0) pe_int (fun _ _ => rfl))) (nomark _)))))), ?_⟩
    have hT : SqT K H a [iv c.1, iv c.2.1, iv c.2.2] := SqT.of ea
    refine ⟨_, rfl, a, _, 0, _, rfl, rfl, hT, atI_nat (j := 0) rfl, _, rfl, _, _, rfl, rfl, _, rfl, ite2 (fun h1 => ?_) (fun h1 => ?_)⟩
    · have h1' : (c.1 : Int) ≤ (h : Int) := of_decide_eq_true h1
      refine ⟨_, rfl, _, rfl, a, _, 0, _, rfl, rfl, hT, atI_nat (j := 0) rfl, _, rfl, a, _, 1, _, rfl, rfl, hT, atI_nat (j := 1) rfl, _, _, rfl, rfl, _, _, rfl, rfl, ?_⟩
      show Q (V.bl (decide ((h : Int) < (c.1 : Int) + (c.2.1 : Int)))) H
      rw [show decide ((h : Int) < (c.1 : Int) + (c.2.1 : Int)) = decide (c.1 ≤ h ∧ h < c.1 + c.2.1) from decide_eq_decide.mpr (by omega)]
      exact k
    · have h1' : ¬ (c.1 : Int) ≤ (h : Int) := fun q => h1 (decide_eq_true q)
      rw [show decide (c.1 ≤ h ∧ h < c.1 + c.2.1) = false from decide_eq_false (by omega)] at k
      exact k
/-! ### _law_got -/
def spGotL : Sp := fun vs H Q _ => ∃ (R : Addr) (ras : List Addr) (rows : List (List Nat)) (k : Nat), vs = [.ref R, iv k] ∧ RowsL H R ras rows ∧ rows.length ≤ 1000 ∧ ∀ H', Frm [] H H' → Q (iv (gotN rows k)) H'
theorem scGotL : FnScope ["_law_rows", "_law_number", "_law_row"] ["_law_rows", "_law_number"] (defScope sGotL) := ⟨rfl, rfl, rfl, by decide +kernel, rfl, by decide +kernel, by decide +kernel⟩
theorem d_gotL {f : Addr} {fd : FuncData} (F : Fun K "_law_got" "_law_got" sGotL f fd) (g : mg "_law_got" = some (.ref f)) (T : Txt K mg) : DefAt P w K mg base CX0 1 "_law_got" ["_law_rows", "_law_number"] spGotL := by
  have nd := scGotL.nd
  refine ⟨f, fd, F.ok scGotL (fun vs H Q E h => ?_) (fun cdv A outer s H vs Q E hr h => ?_), g, F.kp, F.binds fun _ _ _ _ _ _ us hl => match us, hl with | [_, _], _ => rfl⟩
  · obtain ⟨R, ras, rows, n, rfl, _⟩ := h
    rfl
  · obtain ⟨R, ras, rows, n, rfl, hR, hz, k⟩ := h
    refine ⟨_, (pss_one (ps_ret (pe_callB call_len_seq (by rfl) T.len PySem.boot_len (pa_cons (pe_lc (own := [("_law_row", 2)]) (g := gName 2) rfl nd (pi_list (pv 0)) (blkOk_by (own := [("_law_row", 2)]) (N := ["_law_rows", "_law_number", "_law_row"]) (sc := defScope sGotL) (by decide +kernel)) (fun _ _ _ _ _ => pg_name (i := 2) nd rfl (Or.inl rfl)) (fun _ _ _ _ _ => pts_one (pt_cmpR (op_in_seqK K) (pv 1) (pv 2) (by rfl))) (fun _ _ _ _ _ => (pv 2))) pa_nil)))), ?_⟩
    refine ⟨_, rfl, R, rfl, ⟨_, SqL.of hR.1⟩, fun D hD => lc_list (K := K) (a := R) (xs := refs ras) (fun i H' => ∃ acc : List V, H' = upd H D (.lst acc) ∧ acc.length = gotN (rows.take i) n) ⟨[], rfl, rfl⟩ (fun i H' _ ⟨acc, e, _⟩ => by rw [e]; exact SqL.of (by rw [upd_ne (ne_of_none hR.1 hD)]; exact hR.1)) ?_ ?_⟩
    · rintro i y H' hi ⟨acc, rfl, hacc⟩
      obtain ⟨a, ha, rfl⟩ := ix_map hi
      obtain ⟨o, ho, ea⟩ := hR.2.of ha
      obtain ⟨r, hr, rfl⟩ := ix_map ho
      have st := gotN_take hr n
      have eaD : upd H D (.lst acc) a = some (rowO r) := by rw [upd_ne (ne_of_none ea hD)]; exact ea
      refine ⟨rfl, _, rfl, _, rfl, a, _, rfl, .inl (SqL.of eaD), rfl, flat_iv r, _, rfl, ?_⟩
      show if inV (iv n) (r.map iv) = true then _ else _
      rw [inV_iv]
      refine ite2 (fun h => ?_) (fun h => ?_)
      · refine ⟨_, rfl, acc, upd_same, ?_, acc ++ [.ref a], ?_, ?_⟩
        · rw [hacc]
          exact small1000 (Nat.le_trans (gotN_le _ _) (by rw [List.length_take]; omega))
        · rw [upd_upd]
        · rw [st, if_pos (of_decide_eq_true h), List.length_append, hacc]
          rfl
      · refine ⟨acc, rfl, ?_⟩
        rw [st, if_neg (fun q => h (decide_eq_true q)), hacc]
        rfl
    · rintro H' ⟨acc, rfl, hacc⟩
      have hl : (refs ras).length = rows.length := by rw [List.length_map, hR.2.1, List.length_map]
      rw [hl, List.take_length] at hacc
      refine ⟨D, acc, rfl, .inl (SqL.of upd_same), ?_⟩
      rw [hacc]
      exact k _ (Frm.new hD)
end
end Oc
-- P1
set_option Elab.async false
set_option linter.all false
set_option maxRecDepth 100000
set_option maxHeartbeats 4000000
/-! The plan's methods that read. -/
namespace Oc
open PySem PySem.Spec PyProof.Rows L2
theorem ifd {c A B : Prop} [Decidable c] (hc : c) (h : A) : if decide c = true then A else B := by
  rw [if_pos (decide_eq_true hc)]
  exact h
theorem ifdn {c A B : Prop} [Decidable c] (hc : ¬ c) (h : B) : if decide c = true then A else B := by
  rw [if_neg (fun q => hc (of_decide_eq_true q))]
  exact h
theorem ifnd {c A B : Prop} [Decidable c] (hc : ¬ c) (h : A) : if (!decide c) = true then A else B := by
  rw [decide_eq_false hc]
  exact iteT h
/-- no test -/
theorem yes_ {σ : L2.St} {H : Hp} {A B : Hp → Prop} (h : A H) : tYes σ H (fun b H3 => if b = true then A H3 else B H3) := by
  show if true = true then A H else B H
  rw [if_pos rfl]
  exact h
theorem mem_no : ∀ {m : Str}, m = "_check_hour" ∨ m = "_check_car" ∨ m = "in_window" ∨ m = "set_hour" ∨ m = "got" ∨ m = "lack" ∨ m = "hours_of" ∨ m = "room" ∨ m = "total" → ¬ m = "width" ∧ ¬ m = "cars" ∧ ¬ m = "hours_served" := by
  intro m h
  rcases h with rfl | rfl | rfl | rfl | rfl | rfl | rfl | rfl | rfl <;> exact ⟨by decide +kernel, by decide +kernel, by decide +kernel⟩
theorem pf_m {w : Nat} {T S : Addr} {m : Str} (h : m = "_check_hour" ∨ m = "_check_car" ∨ m = "in_window" ∨ m = "set_hour" ∨ m = "got" ∨ m = "lack" ∨ m = "hours_of" ∨ m = "room" ∨ m = "total") : (pfs w T S).lookup m = none := by
  obtain ⟨h1, h2, h3⟩ := mem_no h
  exact pf_no w T S h1 h2 h3
section
variable {P : Program} {w : World} {K : PySem.W.Frag} {mg : Str → Option Value} {base : Heap} {C : Addr}
theorem PlanAt.hl {H : Hp} {O T S : Addr} {w : Nat} {cas : List Addr} {cars : List Car} {has : List Addr} {rows : List (List Nat)} (h : PlanAt C H O T S w cas cars has rows) : (refs has).length = rows.length := by
  rw [List.length_map, h.ho.1, List.length_map]
theorem PlanAt.cl {H : Hp} {O T S : Addr} {w : Nat} {cas : List Addr} {cars : List Car} {has : List Addr} {rows : List (List Nat)} (h : PlanAt C H O T S w cas cars has rows) : (refs cas).length = cars.length := by
  rw [List.length_map, h.ct.2.1, List.length_map]
theorem PlanAt.row {H : Hp} {O T S : Addr} {w : Nat} {cas : List Addr} {cars : List Car} {has : List Addr} {rows : List (List Nat)} (h : PlanAt C H O T S w cas cars has rows) {i : Nat} {r : List Nat} (e : rows[i]? = some r) : ∃ a, has[i]? = some a ∧ H a = some (tupO r) := h.ho.at (map_ix e)
theorem PlanAt.car {H : Hp} {O T S : Addr} {w : Nat} {cas : List Addr} {cars : List Car} {has : List Addr} {rows : List (List Nat)} (h : PlanAt C H O T S w cas cars has rows) {i : Nat} {c : Car} (e : cars[i]? = some c) : ∃ a, cas[i]? = some a ∧ H a = some (carO c) := h.ct.2.at (map_ix e)
/-! ### _check_hour -/
def spCkHour (C : Addr) : Sp := fun vs H Q _ => ∃ (O T S : Addr) (w : Nat) (cas : List Addr) (cars : List Car) (has : List Addr) (rows : List (List Nat)) (h : Nat), vs = [.ref O, iv h] ∧ PlanAt C H O T S w cas cars has rows ∧ h < rows.length ∧ Q .non H
theorem scCkHour : FnScope ["self", "hour"] ["self", "hour"] (defScope sCkHour) := ⟨rfl, rfl, rfl, by decide +kernel, rfl, by decide +kernel, by decide +kernel⟩
theorem m_ckhour {f : Addr} {fd : FuncData} (F : Fun K "_check_hour" "Plan._check_hour" sCkHour f fd) (M : Meth K C "_check_hour" f) (T : Txt K mg) (PC : PlanC K C) : MethAt P w K mg base CX0 1 C "_check_hour" ["self", "hour"] (spCkHour C) := by
  refine ⟨f, fd, F.ok scCkHour (fun vs H Q E h => ?_) (fun cdv A outer s H vs Q E hr h => ?_), M, F.binds fun _ _ _ _ _ _ us hl => match us, hl with | [_, _], _ => rfl⟩
  · obtain ⟨_, _, _, _, _, _, _, _, _, rfl, _⟩ := h
    rfl
  · obtain ⟨O, Tt, S, w, cas, cars, has, rows, h, rfl, hP, hh, k⟩ := h
    refine ⟨_, (pss_one (ps_if (pt_not (pt_chain op_le op_lt pe_int (pv 1) (pe_callB call_len_seq (by rfl) T.len PySem.boot_len (pa_cons (pe_fld (pv 0) rfl) pa_nil))))
        (pss_one ps_never)
        pss_nil)), ?_⟩
    obtain ⟨dx, eO⟩ := hP.ob
    refine ⟨_, rfl, _, _, rfl, rfl, _, rfl, ifd (by omega) ⟨_, rfl, O, C, dx, _, _, rfl, eO, PC.cl, PC.nH, pf_h _ _ _, S, _, rfl, .inl (SqL.of hP.hs), _, _, rfl, rfl, _, rfl, iteNS (by rw [hP.hl]; omega) k⟩⟩
/-! ### in_window -/
def spInWin (C : Addr) : Sp := fun vs H Q _ => ∃ (O T S : Addr) (w : Nat) (cas : List Addr) (cars : List Car) (has : List Addr) (rows : List (List Nat)) (k h : Nat) (c : Car), vs = [.ref O, iv k, iv h] ∧ PlanAt C H O T S w cas cars has rows ∧ cars[k]? = some c ∧ Q (.bl (decide (c.1 ≤ h ∧ h < c.1 + c.2.1))) H
theorem scInWin : FnScope ["self", "number", "hour", "come", "stay", "_"] ["self", "number", "hour"] (defScope sInWin) := ⟨rfl, rfl, rfl, by decide +kernel, rfl, by decide +kernel, by decide +kernel⟩
theorem m_inwin {f : Addr} {fd : FuncData} (F : Fun K "in_window" "Plan.in_window" sInWin f fd) (M : Meth K C "in_window" f) (PC : PlanC K C) : MethAt P w K mg base CX0 1 C "in_window" ["self", "number", "hour"] (spInWin C) := by
  have nd := scInWin.nd
  refine ⟨f, fd, F.ok scInWin (fun vs H Q E h => ?_) (fun cdv A outer s H vs Q E hr h => ?_), M, F.binds fun _ _ _ _ _ _ us hl => match us, hl with | [_, _, _], _ => rfl⟩
  · obtain ⟨_, _, _, _, _, _, _, _, _, _, _, rfl, _⟩ := h
    rfl
  · obtain ⟨O, Tt, S, w, cas, cars, has, rows, n, h, c, rfl, hP, hc, k⟩ := h
    refine ⟨_, (pss_cons (ps_asg (pe_ix ix_tup (pe_fld (pv 0) rfl) (pv 1) (fun _ _ => rfl)) (pg_tup (by rfl) (pgs_cons (pg_name (i := 3) nd rfl (.inl rfl)) (pgs_cons (pg_name (i := 4) nd rfl (.inl rfl)) (pgs_cons (pg_name (i := 5) nd rfl (.inl rfl)) pgs_nil)))))
      (pss_one (ps_ret (pe_chain op_le op_lt (pv 3) (pv 2) (pe_op op_add (pv 3) (pv 4)))))), ?_⟩
    obtain ⟨dx, eO⟩ := hP.ob
    obtain ⟨a, ha, ea⟩ := hP.car hc
    refine ⟨_, rfl, O, C, dx, _, _, rfl, eO, PC.cl, PC.nC, pf_c _ _ _, _, rfl, Tt, _, _, _, rfl, rfl, SqT.of hP.ct.1, atI_nat (map_ix ha), a, _, rfl, SqT.of ea, rfl, _, _, rfl, _, _, rfl, _, _, rfl, rfl, ?_⟩
    refine ⟨_, rfl, _, rfl, _, _, rfl, rfl, _, rfl, ite2 (fun h1 => ?_) (fun h1 => ?_)⟩
    · have h1' : (c.1 : Int) ≤ (h : Int) := of_decide_eq_true h1
      refine ⟨_, rfl, _, rfl, _, _, rfl, rfl, _, _, rfl, rfl, ?_⟩
      show Q (V.bl (decide ((h : Int) < (c.1 : Int) + (c.2.1 : Int)))) H
      rw [show decide ((h : Int) < (c.1 : Int) + (c.2.1 : Int)) = decide (c.1 ≤ h ∧ h < c.1 + c.2.1) from decide_eq_decide.mpr (by omega)]
      exact k
    · have h1' : ¬ (c.1 : Int) ≤ (h : Int) := fun q => h1 (decide_eq_true q)
      rw [show decide (c.1 ≤ h ∧ h < c.1 + c.2.1) = false from decide_eq_false (by omega)] at k
      exact k
/-! ### room -/
abbrev MCkHour (P : Program) (w : World) (K : PySem.W.Frag) (mg : Str → Option Value) (base : Heap) (C : Addr) : Prop := MethAt P w K mg base CX0 1 C "_check_hour" ["self", "hour"] (spCkHour C)
def spRoom (C : Addr) : Sp := fun vs H Q _ => ∃ (O T S : Addr) (w : Nat) (cas : List Addr) (cars : List Car) (has : List Addr) (rows : List (List Nat)) (h : Nat) (r : List Nat), vs = [.ref O, iv h] ∧ PlanAt C H O T S w cas cars has rows ∧ rows[h]? = some r ∧ Q (.int ((w : Int) - (r.length : Int))) H
theorem scRoom : FnScope ["self", "hour"] ["self", "hour"] (defScope sRoom) := ⟨rfl, rfl, rfl, by decide +kernel, rfl, by decide +kernel, by decide +kernel⟩
theorem m_room {f : Addr} {fd : FuncData} (F : Fun K "room" "Plan.room" sRoom f fd) (M : Meth K C "room" f) (T : Txt K mg) (PC : PlanC K C) (D : MCkHour P w K mg base C) : MethAt P w K mg base CX0 2 C "room" ["self", "hour"] (spRoom C) := by
  refine ⟨f, fd, F.ok scRoom (fun vs H Q E h => ?_) (fun cdv A outer s H vs Q E hr h => ?_), M, F.binds fun _ _ _ _ _ _ us hl => match us, hl with | [_, _], _ => rfl⟩
  · obtain ⟨_, _, _, _, _, _, _, _, _, _, rfl, _⟩ := h
    rfl
  · obtain ⟨O, Tt, S, w, cas, cars, has, rows, h, r, rfl, hP, hr', k⟩ := h
    refine ⟨_, (pss_cons (ps_expr (pe_mth D PC.cl hr pass0 (pv 0) (pa_cons (pv 1) pa_nil)))
      (pss_one (ps_ret (pe_op op_sub (pe_fld (pv 0) rfl) (pe_callB call_len_seq (by rfl) T.len PySem.boot_len (pa_cons (pe_ix ix_list (pe_fld (pv 0) rfl) (pv 1) (fun _ _ => rfl)) pa_nil)))))), ?_⟩
    obtain ⟨dx, eO⟩ := hP.ob
    obtain ⟨a, ha, ea⟩ := hP.row hr'
    refine ⟨_, rfl, O, dx, _, rfl, eO, pf_m (by simp), _, rfl, O, Tt, S, w, cas, cars, has, rows, h, rfl, hP, lt_of_ix hr', ?_⟩
    refine ⟨_, rfl, O, C, dx, _, _, rfl, eO, PC.cl, PC.nW, pf_w _ _ _, _, rfl, O, C, dx, _, _, rfl, eO, PC.cl, PC.nH, pf_h _ _ _, _, rfl, S, _, _, _, rfl, rfl, SqL.of hP.hs, atI_nat (map_ix ha), a, _, rfl, .inr (SqT.of ea), _, _, rfl, rfl, ?_⟩
    show Q (V.int ((w : Int) - (((r.map iv).length : Nat) : Int))) H
    rw [List.length_map]
    exact k
/-! ### __getitem__ -/
def spGet (C : Addr) : Sp := fun vs H Q _ => ∃ (O T S : Addr) (w : Nat) (cas : List Addr) (cars : List Car) (has : List Addr) (rows : List (List Nat)) (h : Nat) (r : List Nat), vs = [.ref O, iv h] ∧ PlanAt C H O T S w cas cars has rows ∧ rows[h]? = some r ∧ ∀ a, H a = some (tupO r) → Q (.ref a) H
theorem scGet : FnScope ["self", "hour"] ["self", "hour"] (defScope sGetItem) := ⟨rfl, rfl, rfl, by decide +kernel, rfl, by decide +kernel, by decide +kernel⟩
theorem m_get {f : Addr} {fd : FuncData} (F : Fun K "__getitem__" "Plan.__getitem__" sGetItem f fd) (M : Meth K C "__getitem__" f) (PC : PlanC K C) (D : MCkHour P w K mg base C) : MethAt P w K mg base CX0 2 C "__getitem__" ["self", "hour"] (spGet C) := by
  refine ⟨f, fd, F.ok scGet (fun vs H Q E h => ?_) (fun cdv A outer s H vs Q E hr h => ?_), M, F.binds fun _ _ _ _ _ _ us hl => match us, hl with | [_, _], _ => rfl⟩
  · obtain ⟨_, _, _, _, _, _, _, _, _, _, rfl, _⟩ := h
    rfl
  · obtain ⟨O, Tt, S, w, cas, cars, has, rows, h, r, rfl, hP, hr', k⟩ := h
    refine ⟨_, (pss_cons (ps_expr (pe_mth D PC.cl hr pass0 (pv 0) (pa_cons (pv 1) pa_nil)))
      (pss_one (ps_ret (pe_ix ix_list (pe_fld (pv 0) rfl) (pv 1) (fun _ _ => rfl))))), ?_⟩
    obtain ⟨dx, eO⟩ := hP.ob
    obtain ⟨a, ha, ea⟩ := hP.row hr'
    refine ⟨_, rfl, O, dx, _, rfl, eO, pf_m (by simp), _, rfl, O, Tt, S, w, cas, cars, has, rows, h, rfl, hP, lt_of_ix hr', ?_⟩
    exact ⟨_, rfl, O, C, dx, _, _, rfl, eO, PC.cl, PC.nH, pf_h _ _ _, _, rfl, S, _, _, _, rfl, rfl, SqL.of hP.hs, atI_nat (map_ix ha), k a ea⟩
/-! ### __len__ -/
def spLen (C : Addr) : Sp := fun vs H Q _ => ∃ (O T S : Addr) (w : Nat) (cas : List Addr) (cars : List Car) (has : List Addr) (rows : List (List Nat)), vs = [.ref O] ∧ PlanAt C H O T S w cas cars has rows ∧ Q (iv rows.length) H
theorem scLen : FnScope ["self"] ["self"] (defScope sLen) := ⟨rfl, rfl, rfl, by decide +kernel, rfl, by decide +kernel, by decide +kernel⟩
theorem m_len {f : Addr} {fd : FuncData} (F : Fun K "__len__" "Plan.__len__" sLen f fd) (M : Meth K C "__len__" f) (T : Txt K mg) (PC : PlanC K C) : MethAt P w K mg base CX0 1 C "__len__" ["self"] (spLen C) := by
  refine ⟨f, fd, F.ok scLen (fun vs H Q E h => ?_) (fun cdv A outer s H vs Q E hr h => ?_), M, F.binds fun _ _ _ _ _ _ us hl => match us, hl with | [_], _ => rfl⟩
  · obtain ⟨_, _, _, _, _, _, _, _, rfl, _⟩ := h
    rfl
  · obtain ⟨O, Tt, S, w, cas, cars, has, rows, rfl, hP, k⟩ := h
    refine ⟨_, (pss_one (ps_ret (pe_callB call_len_seq (by rfl) T.len PySem.boot_len (pa_cons (pe_fld (pv 0) rfl) pa_nil)))), ?_⟩
    obtain ⟨dx, eO⟩ := hP.ob
    refine ⟨_, rfl, O, C, dx, _, _, rfl, eO, PC.cl, PC.nH, pf_h _ _ _, S, _, rfl, .inl (SqL.of hP.hs), ?_⟩
    rw [hP.hl]
    exact k
/-! ### total -/
def spTotal (C : Addr) : Sp := fun vs H Q _ => ∃ (O T S : Addr) (w : Nat) (cas : List Addr) (cars : List Car) (has : List Addr) (rows : List (List Nat)), vs = [.ref O] ∧ PlanAt C H O T S w cas cars has rows ∧ rows.length ≤ 1000 ∧ ∀ H', Frm [] H H' → Q (.int (rows.map fun r => (r.length : Int)).sum) H'
theorem scTotal : FnScope ["self", "served"] ["self"] (defScope sTotal) := ⟨rfl, rfl, rfl, by decide +kernel, rfl, by decide +kernel, by decide +kernel⟩
theorem m_total {f : Addr} {fd : FuncData} (F : Fun K "total" "Plan.total" sTotal f fd) (M : Meth K C "total" f) (T : Txt K mg) (PC : PlanC K C) : MethAt P w K mg base CX0 1 C "total" ["self"] (spTotal C) := by
  have nd := scTotal.nd
  refine ⟨f, fd, F.ok scTotal (fun vs H Q E h => ?_) (fun cdv A outer s H vs Q E hr h => ?_), M, F.binds fun _ _ _ _ _ _ us hl => match us, hl with | [_], _ => rfl⟩
  · obtain ⟨_, _, _, _, _, _, _, _, rfl, _⟩ := h
    rfl
  · obtain ⟨O, Tt, S, w, cas, cars, has, rows, rfl, hP, hz, k⟩ := h
    refine ⟨_, (pss_one (ps_ret (pe_callB (cr_sum rfl) (by rfl) T.sum (by decide +kernel) (pa_cons (pe_lc (own := [("served", 1)]) (g := gName 1) rfl nd (pi_list (pe_fld (pv 0) rfl)) (blkOk_by (own := [("served", 1)]) (N := ["self", "served"]) (sc := defScope sTotal) (by decide +kernel)) (fun _ _ _ _ _ => pg_name (i := 1) nd rfl (Or.inl rfl)) (fun _ _ _ _ _ => pts_nil) (fun _ _ _ _ _ => (pe_callB (call_len_seqK K) (by rfl) T.len PySem.boot_len (pa_cons (pv 1) pa_nil)))) pa_nil)))), ?_⟩
    obtain ⟨dx, eO⟩ := hP.ob
    refine ⟨_, rfl, O, C, dx, _, _, rfl, eO, PC.cl, PC.nH, pf_h _ _ _, S, rfl, ⟨_, SqL.of hP.hs⟩, fun D hD => lc_list (K := K) (a := S) (xs := refs has) (fun i H' => H' = upd H D (.lst ((rows.take i).map fun r => V.int (r.length : Int)))) rfl (fun i H' _ e => by rw [e]; exact SqL.of (by rw [upd_ne (ne_of_none hP.hs hD)]; exact hP.hs)) ?_ ?_⟩
    · rintro i y H' hi rfl
      obtain ⟨a, ha, rfl⟩ := ix_map hi
      obtain ⟨o, ho, ea⟩ := hP.ho.of ha
      obtain ⟨r, hr, rfl⟩ := ix_map ho
      have eaD : upd H D (.lst ((rows.take i).map fun r => V.int (r.length : Int))) a = some (tupO r) := by rw [upd_ne (ne_of_none ea hD)]; exact ea
      refine ⟨rfl, yes_ ?_⟩
      refine ⟨_, rfl, a, _, rfl, .inr (SqT.of eaD), _, upd_same, small1000 (by rw [List.length_map, List.length_take]; omega), ?_⟩
      rw [upd_upd, take_ix hr, List.map_append, List.length_map]
      rfl
    · rintro H' rfl
      rw [hP.hl, List.take_length]
      refine ⟨D, rows.map fun r => (r.length : Int), rfl, SqL.of (by rw [upd_same, List.map_map]; rfl), k _ (Frm.new hD)⟩
/-! ### __iter__ -/
def spIter (C : Addr) : Sp := fun vs H Q _ => ∃ (O T S : Addr) (w : Nat) (cas : List Addr) (cars : List Car) (has : List Addr) (rows : List (List Nat)), vs = [.ref O] ∧ PlanAt C H O T S w cas cars has rows ∧ ∀ it, H it = none → Q (.ref it) (upd H it (ItO S it 0))
theorem scIter : FnScope ["self"] ["self"] (defScope sIter) := ⟨rfl, rfl, rfl, by decide +kernel, rfl, by decide +kernel, by decide +kernel⟩
theorem m_iter {f : Addr} {fd : FuncData} (F : Fun K "__iter__" "Plan.__iter__" sIter f fd) (M : Meth K C "__iter__" f) (T : Txt K mg) (PC : PlanC K C) : MethAt P w K mg base CX0 1 C "__iter__" ["self"] (spIter C) := by
  refine ⟨f, fd, F.ok scIter (fun vs H Q E h => ?_) (fun cdv A outer s H vs Q E hr h => ?_), M, F.binds fun _ _ _ _ _ _ us hl => match us, hl with | [_], _ => rfl⟩
  · obtain ⟨_, _, _, _, _, _, _, _, rfl, _⟩ := h
    rfl
  · obtain ⟨O, Tt, S, w, cas, cars, has, rows, rfl, hP, k⟩ := h
    refine ⟨_, (pss_one (ps_ret (pe_callB call_iterL (by rfl) T.iter (by decide +kernel) (pa_cons (pe_fld (pv 0) rfl) pa_nil)))), ?_⟩
    obtain ⟨dx, eO⟩ := hP.ob
    exact ⟨_, rfl, O, C, dx, _, _, rfl, eO, PC.cl, PC.nH, pf_h _ _ _, S, _, rfl, SqL.of hP.hs, fun it hit => k it hit⟩
end
end Oc
-- X0
set_option Elab.async false
set_option linter.all false
set_option maxRecDepth 100000
set_option maxHeartbeats 4000000
/-! BadPlan: an own error below an own error below ValueError; its __init__ calls super().__init__ and stores part. -/
namespace Oc
open PySem PySem.Spec PySem.W PySem.Calls PyProof.Rows PySem.HandSPX L2
abbrev sBp : Stmt := inClass (top 4) 0
/-- what the top has left of the class at C, its __init__ at fI, the cell cc of __class__ -/
structure BpTxt (prog : Program) (K : Frag) (mg : Str → Option Value) (C fI cc cda : Addr) : Prop where
  gC : mg "BadPlan" = some (.ref C)
  gS : mg "super" = none
  cls : ∃ nm q N bs bm sn sub ab col dd k0 k1 k2 k3 k5, K.lookup C = some (excClassObj nm q C N bs bm true sn sub ab col dd k0 k1 k2 k3 k5 "ValueError.__new__") ∧ refsVE bm = true
  sa : findIn K (.ref C) "__setattr__" = some (some (.builtin "object.__setattr__"))
  ga : findIn K (.ref C) "__getattribute__" = some (some (.builtin "BaseException.__getattribute__"))
  gg : findIn K (.ref C) "__getattr__" = some none
  noN : findIn K (.ref C) "part" = some none
  iC : findIn K (.ref C) "__init__" = some (some (.ref fI))
  tC : typeIn K (.ref fI) = some (.type "function")
  kC : keepIn K (.ref C) = true
  exC : subIn K (.ref C) (.type "BaseException") = some true
  veC : subIn K (.ref C) (.type "ValueError") = some true
  tyC : typeIn K (.ref C) = some (.type "type")
  hdC : hasDictIn K C = true
  te : exmOne K (.ref C) (.ref C) = some true
  mr : mroIn K C (.ref C) = some true
  su : ks_superIn K C C "__init__" = some (some (.builtin "ValueError.__init__"))
  op : nsIn K cStatics "thirdparty.any" = some none
  fn : ∃ (oc : Value) (od : Option Addr) (doc pm : Value) (an : Option Addr) (ct : Value) (osl : Array (Option Value)),
    K.lookup fI = some ⟨oc, od, .func (ksFn "__init__" "BadPlan.__init__" (defArgs sBp) (defBody sBp) (defScope sBp) .none .none doc pm an (.ref cda) ct cc), osl⟩ ∧ codeIn K (.ref cda) "BadPlan.__init__" = true
  cd : ∃ (ccl : Value) (cdd : Option Addr) (vs : Array Value) (ccs : Array (Option Value)) (file : Str) (tf : Tok), K.lookup cda = some ⟨ccl, cdd, .fields vs, ccs⟩ ∧ vs[2]? = some (.str file tf) ∧ ((prog.main.file : Str) == file) = true
  ce : ∃ (cl : Value) (cld : Option Addr) (csl : Array (Option Value)), K.lookup cc = some ⟨cl, cld, .cell (some (.ref C)), csl⟩
  tp : (prog.main.scope.names.lookup ("super" : Str)).isSome = false
theorem bp_cells : ∀ y ∈ (defScope sBp).names, y.2 ≠ .cell := by decide +kernel
theorem bp_super : (defScope sBp).names.lookup ("super" : Str) = some .globalImplicit := by decide +kernel
theorem bp_class : (defScope sBp).names.lookup ("__class__" : Str) = some .free := by decide +kernel
theorem bp_self : (defScope sBp).names.lookup ("self" : Str) = some .local := by decide +kernel
theorem bp_part : (defScope sBp).names.lookup ("part" : Str) = some .local := by decide +kernel
theorem bp_locs (x : Addr) (v : Value) : ∀ y ∈ [(("self" : Str), Value.ref x), (("part" : Str), v)], (defScope sBp).names.lookup y.1 = some .local := by
  have h1 : (defScope sBp).names.lookup ("self" : Str) = some .local := by decide +kernel
  have h2 : (defScope sBp).names.lookup ("part" : Str) = some .local := by decide +kernel
  intro y hy
  rcases List.mem_cons.mp hy with e | e
  · rw [e]; exact h1
  · rw [List.mem_singleton.mp e]; exact h2
theorem one_size (v : Value) : [v].length ≤ sizeLine := by
  rw [sizeLine_eq]
  exact (by decide : 1 ≤ 16777216)
/-- what __init__ leaves of a fresh error at x -/
structure BpEnd (h h' : Heap) (x C dx t1 : Addr) (v : Value) : Prop where
  keep : ∀ b o, b ≠ x → h.get? b = some o → h'.get? b = some o
  obj : h'.get? x = some { cls := .ref C, dict := some dx, data := .fields #[.ref t1, .none, .none, .none, .bool false, .none] }
  dbig : h.objs.size ≤ dx
  dne : dx ≠ x
  ns : h'.Ns1 dx (fun y => if y = "part" then some v else none)
/-- a made error -/
structure BpMade (h h' : Heap) (e C d : Addr) (v : Value) : Prop where
  keep : ∀ b o, h.get? b = some o → h'.get? b = some o
  new : h.objs.size ≤ e
  obj : ∃ oe vs, h'.get? e = some oe ∧ oe.cls = .ref C ∧ oe.dict = some d ∧ oe.data = .fields vs ∧ vs[1]? = some .none
  dbig : h.objs.size ≤ d
  dne : d ≠ e
  ns : h'.Ns1 d (fun y => if y = "part" then some v else none)
section
variable {prog : Program} {w : World} {A : Around} {E : Value → Shared → Prop} {R : Result → Shared → Prop} {K : Frag} {mg mb : Str → Option Value} {C fI cc cda : Addr} {h : Heap} {g : Array GenState} {d : Drawn} {t : Nat} {os : OsState}
/-- ValueError.__init__ bound to the error, called -/
theorem bp_base {u x t0 : Addr} {nm q : Str} {N : Addr} {bs bm : List Value} {sn : List Str} {sub : List Value} {ab : Bool} {col : Option Bool} {dd : Option Addr} {k0 k1 k2 k3 k5 : Option Value} {rest : List Value} {Q : Value → Shared → Prop}
    (hC : h.get? C = some (excClassObj nm q C N bs bm true sn sub ab col dd k0 k1 k2 k3 k5 "ValueError.__new__")) (hx : h.get? x = some (excO C t0)) (hu : h.get? u = some (kxs_mw "ValueError.__init__" x)) (hz : rest.length ≤ sizeLine)
    (hq : ∀ h' t1, (∀ b o, b ≠ x → h.get? b = some o → h'.get? b = some o) → h'.get? x = some (excO C t1) → Q .none ⟨h', g, d, t, os⟩) :
    wpAny (model prog w) A (call (.ref u) rest) Q E ⟨h, g, d, t, os⟩ := by
  have FB := F.excBase_ValueError
  refine wpAny_call (codeAny_of_tree ?_)
  show wpAny _ A.in1 (callAny (.ref u) ⟨rest, []⟩) _ _ _
  simp only [callAny]
  refine wpAny_bind (wpAny_load hu ?_)
  simp only [kxs_mw, show (Value.type "method-wrapper" == Value.type "method" || Value.type "method-wrapper" == Value.type "builtin_function_or_method" || Value.type "method-wrapper" == Value.type "method-wrapper") = true by decide, if_true]
  refine KFB.if_so (by decide) (wpAny_bind (check_bound_init FB.toExcCallFacts hC hx rfl (wpAny_bind (wpAny_pure (wpAny_pure ?_)))))
  refine ⟨plainId_quiet FB.init.plain _, codeAny_builtin FB.initEntry ?_⟩
  exact exc_init_tree (cls := .ref C) (t0 := t0) (dv := none) (c2 := .none) (c3 := .none) (b4 := .bool false) hx hz fun h' k e _ => hq h' _ k e
theorem bp_init (T : BpTxt prog K mg C fI cc cda) {x t0 : Addr} {v : Value} (X : K.In h) (hG : h.Ns mainGlobals mg) (hB : h.Ns builtinsNs mb) (hb : mb "super" = some (.type "super")) (hlim : h.NoLimit) (hx : h.get? x = some (excO C t0)) (hnx : K.lookup x = none) (hroom : A.depth < recursionLimit)
    (hq : ∀ h' tk dx t1, BpEnd h h' x C dx t1 v → R (.ok (.ret .none)) ⟨h', g, d, tk, os⟩) :
    codeAny (model prog w) A (.call (.ref fI) ⟨[.ref x, v], []⟩) R ⟨h, g, d, t, os⟩ := by
  obtain ⟨oc, od, doc, pm, an, ct, osl, ho, hcd⟩ := T.fn
  obtain ⟨nm, q, N, bs, bm, sn, sub, ab, col, dd, k0, k1, k2, k3, k5, hC, hbm⟩ := T.cls
  obtain ⟨ccl, cdd, vs, ccs, file, tf, hcode, hvs, hfile⟩ := T.cd
  obtain ⟨cl, cld, csl, hcell⟩ := T.ce
  have hcl : clsIn K C = some { name := nm, bases := bs, mro := .ref C :: bm, ns := N, qualname := q, hasDict := true, slotNames := sn, subclasses := sub, abstract := ab, collection := col, hasDel := false } := by unfold clsIn; rw [hC] <;> rfl
  have hxL : x < h.objs.size := Heap.lt_size hx
  refine ks_codeAny_call_defAt (fd := ksFn "__init__" "BadPlan.__init__" (defArgs sBp) (defBody sBp) (defScope sBp) .none .none doc pm an (.ref cda) ct cc) (body := defBody sBp) (binds := [("self", .ref x), ("part", v)]) hroom (X _ _ ho) rfl hlim (codeRec_of X hcd) rfl
    (BindsTo.of_eq (by first | rfl | with_unfolding_all rfl)) bp_cells (bp_locs x v) (fun h1 hns k1' => ?_) rfl rfl rfl
  have X1 : K.In h1 := X.keeps k1'
  have hx1 := k1' _ _ hx
  -- super().__init__(..)
  refine ks_wpAt_execs_cons (ks_wpAt_Expr_any (ks_wpAt_MethodCall ?_))
  refine ks_wpAt_super_base (cc := cda) (f := fI) (ar := _) bp_super bp_class (by decide +kernel) rfl (X1 _ _ ho) rfl rfl rfl (X1 _ _ hcode) rfl hvs hfile T.tp ?_
  refine ks_loadName_global rfl bp_super (Calls.loadGlobal_builtin (hG.keeps k1') T.gS (hB.keeps k1') hb ⟨rfl, ?_⟩)
  refine wpAny_loadName_free rfl bp_class rfl ⟨_, X1 _ _ hcell, rfl⟩ ?_
  refine wpAny_loadName_local (v := .ref x) rfl bp_self hns (by first | rfl | with_unfolding_all rfl | kernel_rfl) ?_
  refine ks_wpAny_isType_cls (X1 _ _ hC) rfl ⟨rfl, ?_⟩
  refine ks_wpAny_call_super (X1 _ _ hC) rfl hx1 rfl (fun c e => by cases e) (looks_mroIn X1 T.mr) (fun h2 hso k2' => ?_)
  have X2 : K.In h2 := X1.keeps k2'
  have hx2 := k2' _ _ hx1
  have I2 : PySem.W.InstAt h2 x (excO C t0) C none := ⟨hx2, rfl, rfl, trivial⟩
  have hxC : x ≠ C := fun z => by rw [z, hC] at hnx; cases hnx
  have hsu := T.su
  unfold ks_superIn at hsu
  rw [hcl] at hsu
  have hsu : alongIn K ("__init__" : Str) (((Value.ref C :: bm).dropWhile (· != .ref C)).drop 1) = some (some (.builtin "ValueError.__init__")) := hsu
  refine kxs_getMethod kxs_ValueError (D := C) (l₀ := .ref C :: bm) (l := ((Value.ref C :: bm).dropWhile (· != .ref C)).drop 1) hso (looks_opaque X2 T.op) (fun A Q E s k q => wpAny_bind ((looks_clsIn X2 hcl) A _ E s k (wpAny_pure q))) rfl X2 hsu
    (I2.type.andThen (looks_subIn X2 T.veC)) hxC (by decide +kernel) ?_
  have hso2 : h1.objs.size < h2.objs.size := Heap.lt_size hso
  refine kxs_callWith (i := "ValueError.__init__") (x := x) rfl (evalArgs_plain (Calls.spliced_cons (Calls.Constant_str (pos := ⟨0, 0, 0, 0⟩) (k := 0) (Calls.spliced_nil ⟨Heap.get?_push_size _ rfl, ?_⟩))))
  have k3 : ∀ b o, h2.get? b = some o → (h2.push (kxs_mw "ValueError.__init__" x)).get? b = some o := fun b o e => Heap.get?_push_of_some _ e
  refine bp_base (C := C) (k3 _ _ (X2 _ _ hC)) (k3 _ _ hx2) (Heap.get?_push_size _ rfl) (one_size _) fun h3 t3 k4 hx3 => ?_
  -- self.part = part
  have kA : ∀ b o, b ≠ x → h1.get? b = some o → h3.get? b = some o := fun b o hb e => k4 b o hb (k3 _ _ (k2' b o e))
  have X3 : K.In h3 := fun a o e => kA a o (fun z => by rw [z, hnx] at e; cases e) (X1 a o e)
  have hxn : h.objs.size ≠ x := Nat.ne_of_gt hxL
  obtain ⟨oL, es, ep, hoL, hrL⟩ := hns
  have hns3 : h3.Ns h.objs.size (fun y => [(("self" : Str), Value.ref x), (("part" : Str), v)].reverse.lookup y) := ⟨oL, es, ep, kA _ _ hxn hoL, hrL⟩
  show PySem.wpAt _ _ _ (execs _ _) _ _ _
  refine ks_wpAt_execs_cons (wpAt_of_wpAny (plainObj_wpAny_Assign_Attribute ?_ rfl))
  refine wpAny_Name (wpAny_loadName_local (v := v) rfl bp_part hns3 (by first | rfl | with_unfolding_all rfl | kernel_rfl) ?_) (by decide)
  refine wpAny_Name (wpAny_loadName_local (v := .ref x) rfl bp_self hns3 (by first | rfl | with_unfolding_all rfl | kernel_rfl) ?_) (by decide)
  refine set_plain X3 (ox := excO C t3) (od := none) ⟨hx3, rfl, rfl, trivial⟩ T.sa ?_
  refine exc_osa X3 hx3 hcl (show refsVE (.ref C :: bm) = true from hbm) rfl T.noN (fun h5 tk5 dx k5 dn dne hx5 hn5 => ?_)
  show PySem.wpAt _ _ _ (execs _ _) _ _ _
  have z1 : h.objs.size < h1.objs.size := Heap.lt_size hoL
  have z3 : h.objs.size < h3.objs.size := Heap.lt_size (kA _ _ hxn hoL)
  refine wpAt_of_wpAny (wpAny_execs_nil (hq h5 tk5 dx t3 ⟨fun b o hb e => k5 b o hb (kA b o hb (k1' b o e)), hx5, Nat.le_of_lt (Nat.lt_of_lt_of_le z3 dn), dne, hn5⟩))
theorem bp_made (T : BpTxt prog K mg C fI cc cda) {v : Value} (X : K.In h) (hG : h.Ns mainGlobals mg) (hB : h.Ns builtinsNs mb) (hb : mb "super" = some (.type "super")) (hlim : h.NoLimit) (hroom : A.depth + 1 < recursionLimit)
    (hq : ∀ h' tk e d', BpMade h h' e C d' v → R (.ok (.ret (.ref e))) ⟨h', g, d, tk, os⟩) : codeAny (model prog w) A (.call (.ref C) ⟨[v], []⟩) R ⟨h, g, d, t, os⟩ := by
  obtain ⟨nm, q, N, bs, bm, sn, sub, ab, col, dd, k0, k1, k2, k3, k5, hC, hbm⟩ := T.cls
  have kk : ∀ b o, h.get? b = some o → ((h.push (kdv_tup [v])).push (excO C h.objs.size)).get? b = some o := fun b o e => Heap.get?_push_of_some _ (Heap.get?_push_of_some _ e)
  have hget : ((h.push (kdv_tup [v])).push (excO C h.objs.size)).get? (h.objs.size + 1) = some (excO C h.objs.size) := by heap_get
  have hnx : K.lookup (h.objs.size + 1) = none := by
    cases e : K.lookup (h.objs.size + 1) with
    | none => rfl
    | some o => exact absurd (Nat.lt_of_succ_lt (Heap.lt_size (X _ _ e))) (Nat.lt_irrefl _)
  refine call_own F.excBase_ValueError (fun Y => refsVE_contains Y bm hbm) (X _ _ hC) (looks_findIn X T.iC) (fun self => bind_fn X self T.tC) (one_size v) ?_
  refine bp_init T (X.keeps kk) (hG.keeps kk) (hB.keeps kk) hb (hlim.keeps kk) hget hnx hroom fun h' tk' dx t1 B => ?_
  have old : ∀ b o, h.get? b = some o → h'.get? b = some o := fun b o e => B.keep b o (Nat.ne_of_lt (Nat.lt_succ_of_lt (Heap.lt_size e))) (kk b o e)
  have z : h.objs.size + 1 + 1 ≤ dx := by
    have q := B.dbig
    rw [Heap.size_push, Heap.size_push] at q
    exact q
  exact ⟨rfl, hq h' tk' (h.objs.size + 1) dx ⟨old, Nat.le_succ _, ⟨_, _, B.obj, rfl, rfl, rfl, rfl⟩, Nat.le_trans (Nat.le_trans (Nat.le_succ _) (Nat.le_succ _)) z, B.dne, B.ns⟩⟩
end
end Oc
-- X1
set_option Elab.async false
set_option linter.all false
set_option maxRecDepth 100000
set_option maxHeartbeats 4000000
/-! BadPlan("..") as a statement's rule; its field read. -/
namespace Oc
open PySem PySem.Spec PyProof.Rows L2
theorem boot_super : bootBuiltins "super" = some (.type "super") := by decide +kernel
theorem relO_part {v : V} {v' : Value} (r : RelV v v') (f : Str) : RelO (List.lookup f [(("part" : Str), v)]) (if f = "part" then some v' else none) := by
  by_cases hw : f = "part"
  · subst hw
    rw [if_pos rfl, show List.lookup ("part" : Str) [(("part" : Str), v)] = some v by simp [List.lookup]]
    exact r
  · have qw : (f == ("part" : Str)) = false := by simpa using hw
    rw [if_neg hw, show List.lookup f [(("part" : Str), v)] = none by simp [List.lookup, qw]]
    trivial
section
variable {X : Cx} {C fI cc cda : Addr}
/-- BadPlan(e) -/
def tMkBp (C : Addr) (ta : TA) : L2.St → Hp → XK → Prop := fun σ H Q => ta σ H fun vs H1 => ∃ v, vs = [v] ∧ ∀ d, H1 d = none → Q (.ref C) (some d) (upd H1 d (.xd [(("part" : Str), v)]))
theorem pmk_bp {a : Expr} {ta : TA} {p pos : Pos} {k : Nat} (T : BpTxt X.prog X.K X.mg C fI cc cda) (hr : Room k X.A) (ha : PA X [a] ta) (hg : Gl X "BadPlan" := by rfl)
    (he : starEach (a :: []) X.env = (false, eval a X.env) :: starEach [] X.env := by rfl) (hpl : (backTo pos (starEach [] X.env)).any (·.1) = false := by rfl) :
    PMk X (.Call (.Name "BadPlan" p) [a] [] pos) (tMkBp C ta) := by
  intro pins s σ H Q I h
  refine wpAny_Call_Name_kw (ld_glob I hg T.gC (PySem.W.callWith_K (h₀ := X.base) I.ok.mod.kin T.kC (thn (ha.run pos pins s σ H _ I h) fun us s1 hh => ?_) he hpl))
  obtain ⟨vs, H1, I1, r1, v, ev, q1⟩ := hh
  subst ev
  refine ⟨I1.kIn, ?_⟩
  obtain ⟨v', rfl, rv⟩ := r1.one
  show wpAny _ _ (call (.ref C) [v']) _ _ _
  have hlim := I1.nolimit
  obtain ⟨mb, b1, b2⟩ := I1.ok.mod.blt
  have gG := I1.ok.mod.glob.keeps I1.bk
  have gB := b1.keeps I1.bk
  obtain ⟨hp, g, dr, tk, os⟩ := s1
  refine wpAny_call (bp_made T I1.kIn gG gB ((b2 "super" (by decide +kernel)).trans boot_super) hlim (by have := hr.dp; omega) fun h' tk' e d M => ?_)
  show MkP X pins σ Q (.ref e) ⟨h', g, dr, tk', os⟩
  obtain ⟨oe, fv, hoe, hc, hd, hdat, h1⟩ := M.obj
  have hns := M.ns
  obtain ⟨G', g1, g2⟩ := restrict h' fun b => decide (b ≠ e)
  have gk : ∀ b, b ≠ e → G'.get? b = h'.get? b := fun b hb => g1 b (decide_eq_true hb)
  have ge : G'.get? e = none := g2 e (by simp)
  have old : ∀ b o, hp.get? b = some o → G'.get? b = some o := fun b o q => (gk b (Nat.ne_of_lt (Nat.lt_of_lt_of_le (Heap.lt_size q) M.new))).trans (M.keep b o q)
  have ob : ObjOk X.prog X.w (upd H1 d (.xd [(("part" : Str), v)])) G' d (.xd [(("part" : Str), v)]) := ⟨_, hns.at (fun o q => (gk d M.dne).trans q), fun f => relO_part rv f⟩
  have J : Inv X pins σ (upd H1 d (.xd [(("part" : Str), v)])) ⟨G', g, dr, tk', os⟩ := I1.laid (t' := tk') old M.dbig ob
  refine ⟨e, oe, fv, ⟨G', g, dr, tk', os⟩, _, .ref C, some d, rfl, J, fun b o q => ?_, ge, hoe, ⟨hc, hd⟩, hdat, h1, ?_, rfl, I1.bare, raises_own T.exC T.tyC, q1 d (I1.hok.fresh M.dbig)⟩
  · by_cases hb : b = e
    · have q' : G'.get? b = some o := q
      rw [hb, ge] at q'
      cases q'
    · exact (gk b hb).symm.trans q
  · rw [upd_ne (Ne.symm M.dne)]
    exact I1.hok.fresh M.new
/-- raise BadPlan(e) -/
def tRaiseBp (C : Addr) (W : WX) (ta : TA) : TS := fun _ σ H => tMkBp C ta σ H fun cls d H' => W cls d σ H'
theorem ps_raiseBp {a : Expr} {ta : TA} {W : WX} {p pos pos2 : Pos} {k : Nat} (hc : X.calm = true) (T : BpTxt X.prog X.K X.mg C fI cc cda) (hr : Room k X.A) (tk : Takes X W) (ha : PA X [a] ta) (hg : Gl X "BadPlan" := by rfl)
    (he : starEach (a :: []) X.env = (false, eval a X.env) :: starEach [] X.env := by rfl) (hpl : (backTo pos (starEach [] X.env)).any (·.1) = false := by rfl) :
    PS X (.Raise (some (.Call (.Name "BadPlan" p) [a] [] pos)) none pos2) (tRaiseBp C W ta) := ps_raise hc tk (pmk_bp T hr ha hg he hpl)
/-- e.part, e the error that the suite holds -/
def tPart (C : Addr) (a : Addr) (cls : Value) (d : Option Addr) (te : TE) : TE := fun σ H Q => te σ H fun x H1 => x = .ref a ∧ cls = .ref C ∧ ∃ (dd : Addr) (v : V), d = some dd ∧ H1 dd = some (.xd [(("part" : Str), v)]) ∧ Q v H1
theorem pe_part {a : Addr} {oe : Obj} {cls : Value} {d : Option Addr} {pn : List (Addr × Obj)} {e : Expr} {te : TE} {pos : Pos} (T : BpTxt X.prog X.K X.mg C fI cc cda) (hz : Zc cls d oe) (hf : ∃ vs, oe.data = .fields vs) (he : PE (X.suite a ((a, oe) :: pn)) e te)
    (hb : attributeBase e "part" X.env (eval e X.env) = eval e X.env := by rfl) : PE (X.suite a ((a, oe) :: pn)) (.Attribute e "part" pos) (tPart C a cls d te) := by
  refine ⟨fun pins s σ H Q I h => ?_⟩
  refine attr_of hb (thn (he.run pins s σ H _ I h) fun u s1 hh => ?_)
  obtain ⟨x, H1, I1, rx, ex, ec, dd, v, ed, ea, q⟩ := hh
  subst ex
  obtain rfl : u = Value.ref a := rx
  subst ec
  subst ed
  obtain ⟨ha, _⟩ := I1.pin (a, oe) (List.mem_append_left _ List.mem_cons_self)
  obtain ⟨vs, hd⟩ := hf
  have hx : ObjOk X.prog X.w H1 s1.heap dd (.xd [(("part" : Str), v)]) := I1.hok dd _ ea
  obtain ⟨mA, hns, hr⟩ := hx
  obtain ⟨od, ho, hl⟩ := lookIn_ns hns
  have l : List.lookup ("part" : Str) [(("part" : Str), v)] = some v := by simp [List.lookup]
  obtain ⟨u, hu, ru⟩ := RelO.some_of (v := v) (o := mA "part") (by rw [← l]; exact hr "part")
  have J : PySem.W.InstAt s1.heap a oe C (some od) := ⟨ha, hz.1, by unfold PySem.W.notCls; rw [hd] <;> rfl, by rw [hz.2]; exact ho⟩
  exact HandSPX.exc_get I1.kIn J T.ga T.gg T.exC (PySem.W.findObj_own T.hdC T.noN rfl (by rw [hl, hu])) (handed_of ru) ⟨v, H1, I1.tok _, ru, q⟩
end
end Oc
-- P2
set_option Elab.async false
set_option linter.all false
set_option maxRecDepth 100000
set_option maxHeartbeats 4000000
/-! The plan's methods that may raise BadPlan("car"); loops over enumerate. -/
namespace Oc
open PySem PySem.Spec PyProof.Rows L2
theorem passE {P : Program} {w : World} {K : PySem.W.Frag} {mg : Str → Option Value} {base : Heap} {N : List Str} {qual : Str} {scope : Scope} {f : Addr} {cd : Value} {A : Around} {outer : List Env} {s : Shared} {H : Hp} {E : XK} :
    Passes (L2.CX P w) (cxOf (L2.CX P w) P w K mg base N qual scope f cd A outer s H E) E := fun pins σ H' s' e s'' I c =>
  passes_call (X := cxOf (L2.CX P w) P w K mg base N qual scope f cd A outer s H E) (takes_of rfl rfl rfl rfl) (fun _ _ _ _ h => h) pins σ H' s' e s'' I c
/-- a comprehension over enumerate of a list that stands still -/
theorem lc_enum {K : PySem.W.Frag} {a : Addr} {xs : List V} {g : TG} {tt : TT} {te : TE} {vs : List Nat} {σ : L2.St} {H1 : Hp} {D : Addr} {Qd : Hp → Prop} (Pv : Nat → Hp → Prop) (h0 : Pv 0 (upd H1 D (.lst []))) (hl : ∀ i H, i ≤ xs.length → Pv i H → SqL K H a xs)
    (hs : ∀ (i : Nat) x H T, xs[i]? = some x → Pv i H → H T = none → g (.ref T) (wipe σ vs) (upd H T (.tup [iv i, x])) fun σ2 H2 => wipe σ2 vs = wipe σ vs ∧ tt σ2 H2 fun b H3 =>
      if b = true then te σ2 H3 fun y H4 => ∃ acc, H4 D = some (.lst acc) ∧ acc.length < sizeLine ∧ Pv (i + 1) (upd H4 D (.lst (acc ++ [y]))) else Pv (i + 1) H3) (hd : ∀ H, Pv xs.length H → Qd H) :
    ∃ W : Nat → Nat → Hp → Prop, (∃ m, W 0 m (upd H1 D (.lst []))) ∧ ∀ i m H, W i m H →
      ((Ite K a).stop i H ∧ Qd H) ∨ ((Ite K a).go i H ∧ ∃ Nx : Hp → Prop, (∀ H', Nx H' → ∃ m', m' < m ∧ W (i + 1) m' H') ∧ ∀ x H', (Ite K a).yld i H x H' → g x (wipe σ vs) H' fun σ2 H2 => wipe σ2 vs = wipe σ vs ∧ tt σ2 H2 fun b H3 =>
        if b = true then te σ2 H3 fun y H4 => ∃ acc, H4 D = some (.lst acc) ∧ acc.length < sizeLine ∧ Nx (upd H4 D (.lst (acc ++ [y]))) else Nx H3) := by
  refine ⟨fun i m H => m + i = xs.length ∧ Pv i H, ⟨xs.length, rfl, h0⟩, fun i m H ⟨hm, p⟩ => ?_⟩
  have q := hl i H (by omega) p
  by_cases hlt : i < xs.length
  · refine .inr ⟨⟨xs, xs[i], q, List.getElem?_eq_getElem hlt⟩, Pv (i + 1), fun H' p' => ⟨m - 1, by omega, by omega, p'⟩, fun x H' y => ?_⟩
    obtain ⟨T, z, rfl, hT, rfl, hz⟩ := y
    exact hs i z H T (hz xs q) p hT
  · have e : i = xs.length := by omega
    subst e
    exact .inl ⟨⟨xs, q, Nat.le_refl _⟩, hd H p⟩
theorem for_enum {K : PySem.W.Frag} {a : Addr} {xs : List V} {g : TG} {tb : TS} {D : Ends} {σ : L2.St} {H : Hp} (Pv : Nat → L2.St → Hp → Prop) (h0 : Pv 0 σ H) (hl : ∀ i σ H, i ≤ xs.length → Pv i σ H → SqL K H a xs)
    (hs : ∀ (i : Nat) x σ H T, xs[i]? = some x → Pv i σ H → H T = none → g (.ref T) σ (upd H T (.tup [iv i, x])) fun σ2 H2 => tb { D with nx := Pv (i + 1), ct := Pv (i + 1), bk := D.nx } σ2 H2) (hd : ∀ σ H, Pv xs.length σ H → D.nx σ H) :
    ∃ W : Nat → Nat → L2.St → Hp → Prop, (∃ m, W 0 m σ H) ∧ ∀ i m σ H, W i m σ H →
      ((Ite K a).stop i H ∧ D.nx σ H) ∨ ((Ite K a).go i H ∧ ∃ N : L2.St → Hp → Prop, (∀ σ' H', N σ' H' → ∃ m', m' < m ∧ W (i + 1) m' σ' H') ∧ ∀ x H', (Ite K a).yld i H x H' → g x σ H' fun σ2 H2 => tb { D with nx := N, ct := N, bk := D.nx } σ2 H2) := by
  refine ⟨fun i m σ H => m + i = xs.length ∧ Pv i σ H, ⟨xs.length, rfl, h0⟩, fun i m σ H ⟨hm, p⟩ => ?_⟩
  have q := hl i σ H (by omega) p
  by_cases hlt : i < xs.length
  · refine .inr ⟨⟨xs, xs[i], q, List.getElem?_eq_getElem hlt⟩, Pv (i + 1), fun σ' H' p' => ⟨m - 1, by omega, by omega, p'⟩, fun x H' y => ?_⟩
    obtain ⟨T, z, rfl, hT, rfl, hz⟩ := y
    exact hs i z σ H T (hz xs q) p hT
  · have e : i = xs.length := by omega
    subst e
    exact .inl ⟨⟨xs, q, Nat.le_refl _⟩, hd σ H p⟩
/-- the way out of a wrong number: BadPlan("car"), its own dict new -/
def OutCar (CB : Addr) (H : Hp) (E : XK) : Prop := ∀ H' d, Frm [] H H' → H d = none → E (.ref CB) (some d) (upd H' d (.xd [(("part" : Str), .str "car")]))
section
variable {P : Program} {w : World} {K : PySem.W.Frag} {mg : Str → Option Value} {base : Heap} {C CB fI cc cda : Addr}
/-! ### _check_car -/
def spCkCar (C CB : Addr) : Sp := fun vs H Q E => ∃ (O T S : Addr) (w : Nat) (cas : List Addr) (cars : List Car) (has : List Addr) (rows : List (List Nat)) (z : Int), vs = [.ref O, .int z] ∧ PlanAt C H O T S w cas cars has rows ∧
  (0 ≤ z ∧ z < cars.length → Q .non H) ∧ (¬ (0 ≤ z ∧ z < cars.length) → OutCar CB H E)
theorem scCkCar : FnScope ["self", "number"] ["self", "number"] (defScope sCkCar) := ⟨rfl, rfl, rfl, by decide +kernel, rfl, by decide +kernel, by decide +kernel⟩
theorem m_ckcar {f : Addr} {fd : FuncData} (F : Fun K "_check_car" "Plan._check_car" sCkCar f fd) (M : Meth K C "_check_car" f) (T : Txt K mg) (PC : PlanC K C) (BT : BpTxt P K mg CB fI cc cda) :
    MethAt P w K mg base (L2.CX P w) 3 C "_check_car" ["self", "number"] (spCkCar C CB) := by
  refine ⟨f, fd, F.okX scCkCar (fun vs H Q E h => ?_) (fun cdv A outer s H vs Q E hr h => ?_), M, F.binds fun _ _ _ _ _ _ us hl => match us, hl with | [_, _], _ => rfl⟩
  · obtain ⟨_, _, _, _, _, _, _, _, _, rfl, _⟩ := h
    rfl
  · obtain ⟨O, Tt, S, w, cas, cars, has, rows, z, rfl, hP, kq, ke⟩ := h
    refine ⟨_, (pss_one (ps_if (pt_not (pt_chain op_le op_lt pe_int (pv 1) (pe_callB call_len_seq (by rfl) T.len PySem.boot_len (pa_cons (pe_fld (pv 0) rfl) pa_nil))))
        (pss_one (ps_raiseBp rfl BT hr (takes_of rfl rfl rfl rfl) (by exact (pa_cons pe_str pa_nil))))
        pss_nil)), ?_⟩
    obtain ⟨dx, eO⟩ := hP.ob
    by_cases h0 : 0 ≤ z
    · refine ⟨_, rfl, _, _, rfl, rfl, _, rfl, ifd h0 ⟨_, rfl, O, C, dx, _, _, rfl, eO, PC.cl, PC.nC, pf_c _ _ _, Tt, _, rfl, .inr (SqT.of hP.ct.1), _, _, rfl, rfl, _, rfl, ?_⟩⟩
      rw [hP.cl]
      by_cases h1 : z < cars.length
      · exact iteNS h1 (kq ⟨h0, h1⟩)
      · exact ifnd h1 ⟨_, rfl, fun d hd => ke (fun q => h1 q.2) H d Frm.refl hd⟩
    · refine ⟨_, rfl, _, _, rfl, rfl, _, rfl, ifdn h0 ⟨_, rfl, ?_⟩⟩
      show if (!false) = true then _ else _
      exact iteT (A := tRaiseBp CB (fun cls d x H => E cls d H) (tCons (tC (.str "car")) tNil) _ _ _) (B := Q V.non H) ⟨_, rfl, fun d hd => ke (fun q => h0 q.1) H d Frm.refl hd⟩
end
end Oc
-- P3
set_option Elab.async false
set_option linter.all false
set_option maxRecDepth 100000
set_option maxHeartbeats 4000000
/-! got, lack, hours_of. -/
namespace Oc
open PySem PySem.Spec PyProof.Rows L2
/-- the hours in which the number stands, from j on -/
def hoursL : Nat → List (List Nat) → Nat → List Nat
  | _, [], _ => []
  | j, r :: rows, k => (if k ∈ r then [j] else []) ++ hoursL (j + 1) rows k
def hoursIn (rows : List (List Nat)) (k : Nat) : List Nat := (List.range rows.length).filter fun h => decide (k ∈ rows.getD h [])
theorem hoursIn_take {rows : List (List Nat)} {i : Nat} (k : Nat) : (List.range (i + 1)).filter (fun h => decide (k ∈ rows.getD h [])) = (List.range i).filter (fun h => decide (k ∈ rows.getD h [])) ++ if k ∈ rows.getD i [] then [i] else [] := by
  rw [List.range_succ, List.filter_append]
  congr 1
  by_cases h : k ∈ rows.getD i []
  · rw [if_pos h, List.filter_cons_of_pos (by simpa using h)]
    rfl
  · rw [if_neg h, List.filter_cons_of_neg (by simpa using h)]
    rfl
theorem getD_of {rows : List (List Nat)} {i : Nat} {r : List Nat} (h : rows[i]? = some r) : rows.getD i [] = r := by
  rw [List.getD_eq_getElem?_getD, h]
  rfl
section
variable {P : Program} {w : World} {K : PySem.W.Frag} {mg : Str → Option Value} {base : Heap} {C CB fI cc cda : Addr}
/-! ### got -/
abbrev MCkCar (P : Program) (w : World) (K : PySem.W.Frag) (mg : Str → Option Value) (base : Heap) (C CB : Addr) : Prop := MethAt P w K mg base (L2.CX P w) 3 C "_check_car" ["self", "number"] (spCkCar C CB)
def spGot (C CB : Addr) : Sp := fun vs H Q E => ∃ (O T S : Addr) (w : Nat) (cas : List Addr) (cars : List Car) (has : List Addr) (rows : List (List Nat)) (z : Int), vs = [.ref O, .int z] ∧ PlanAt C H O T S w cas cars has rows ∧ rows.length ≤ 1000 ∧
  (∀ k : Nat, z = k → k < cars.length → ∀ H', Frm [] H H' → Q (iv (gotN rows k)) H') ∧ (¬ (0 ≤ z ∧ z < cars.length) → OutCar CB H E)
theorem scGot : FnScope ["self", "number", "served"] ["self", "number"] (defScope sGot) := ⟨rfl, rfl, rfl, by decide +kernel, rfl, by decide +kernel, by decide +kernel⟩
theorem m_got {f : Addr} {fd : FuncData} (F : Fun K "got" "Plan.got" sGot f fd) (M : Meth K C "got" f) (T : Txt K mg) (PC : PlanC K C) (D : MCkCar P w K mg base C CB) : MethAt P w K mg base (L2.CX P w) 4 C "got" ["self", "number"] (spGot C CB) := by
  have nd := scGot.nd
  refine ⟨f, fd, F.okX scGot (fun vs H Q E h => ?_) (fun cdv A outer s H vs Q E hr h => ?_), M, F.binds fun _ _ _ _ _ _ us hl => match us, hl with | [_, _], _ => rfl⟩
  · obtain ⟨_, _, _, _, _, _, _, _, _, rfl, _⟩ := h
    rfl
  · obtain ⟨O, Tt, S, w, cas, cars, has, rows, z, rfl, hP, hz, kq, ke⟩ := h
    refine ⟨_, (pss_cons (ps_expr (pe_mth D PC.cl hr passE (pv 0) (pa_cons (pv 1) pa_nil)))
      (pss_one (ps_ret (pe_callB call_len_seq (by rfl) T.len PySem.boot_len (pa_cons (pe_lc (own := [("served", 2)]) (g := gName 2) rfl nd (pi_list (pe_fld (pv 0) rfl)) (blkOk_by (own := [("served", 2)]) (N := ["self", "number", "served"]) (sc := defScope sGot) (by decide +kernel)) (fun _ _ _ _ _ => pg_name (i := 2) nd rfl (Or.inl rfl)) (fun _ _ _ _ _ => pts_one (pt_cmpR (op_in_seqK K) (pv 1) (pv 2) (by rfl))) (fun _ _ _ _ _ => (pv 2))) pa_nil))))), ?_⟩
    obtain ⟨dx, eO⟩ := hP.ob
    refine ⟨_, rfl, O, dx, _, rfl, eO, pf_m (by simp), _, rfl, O, Tt, S, w, cas, cars, has, rows, z, rfl, hP, fun hz2 => ?_, ke⟩
    obtain ⟨k, rfl⟩ : ∃ k : Nat, z = k := ⟨z.toNat, by omega⟩
    have kq := kq k rfl (by omega)
    refine ⟨_, rfl, O, C, dx, _, _, rfl, eO, PC.cl, PC.nH, pf_h _ _ _, S, rfl, ⟨_, SqL.of hP.hs⟩, fun L hL => lc_list (K := K) (a := S) (xs := refs has) (fun i H' => ∃ acc : List V, H' = upd H L (.lst acc) ∧ acc.length = gotN (rows.take i) k) ⟨[], rfl, rfl⟩ (fun i H' _ ⟨acc, e, _⟩ => by rw [e]; exact SqL.of (by rw [upd_ne (ne_of_none hP.hs hL)]; exact hP.hs)) ?_ ?_⟩
    · rintro i y H' hi ⟨acc, rfl, hacc⟩
      obtain ⟨a, ha, rfl⟩ := ix_map hi
      obtain ⟨o, ho, ea⟩ := hP.ho.of ha
      obtain ⟨r, hr, rfl⟩ := ix_map ho
      have st := gotN_take hr k
      have eaL : upd H L (.lst acc) a = some (tupO r) := by rw [upd_ne (ne_of_none ea hL)]; exact ea
      refine ⟨rfl, _, rfl, _, rfl, a, _, rfl, .inr (SqT.of eaL), rfl, flat_iv r, _, rfl, ?_⟩
      show if inV (iv k) (r.map iv) = true then _ else _
      rw [inV_iv]
      refine ite2 (fun h => ?_) (fun h => ?_)
      · refine ⟨_, rfl, acc, upd_same, ?_, acc ++ [.ref a], ?_, ?_⟩
        · rw [hacc]
          exact small1000 (Nat.le_trans (gotN_le _ _) (by rw [List.length_take]; omega))
        · rw [upd_upd]
        · rw [st, if_pos (of_decide_eq_true h), List.length_append, hacc]
          rfl
      · refine ⟨acc, rfl, ?_⟩
        rw [st, if_neg (fun q => h (decide_eq_true q)), hacc]
        rfl
    · rintro H' ⟨acc, rfl, hacc⟩
      rw [hP.hl, List.take_length] at hacc
      refine ⟨L, acc, rfl, .inl (SqL.of upd_same), ?_⟩
      rw [hacc]
      exact kq _ (Frm.new hL)
/-! ### lack -/
abbrev MGot (P : Program) (w : World) (K : PySem.W.Frag) (mg : Str → Option Value) (base : Heap) (C CB : Addr) : Prop := MethAt P w K mg base (L2.CX P w) 4 C "got" ["self", "number"] (spGot C CB)
def spLack (C CB : Addr) : Sp := fun vs H Q E => ∃ (O T S : Addr) (w : Nat) (cas : List Addr) (cars : List Car) (has : List Addr) (rows : List (List Nat)) (z : Int), vs = [.ref O, .int z] ∧ PlanAt C H O T S w cas cars has rows ∧ rows.length ≤ 1000 ∧
  (∀ (k : Nat) (c : Car), z = k → cars[k]? = some c → ∀ H', Frm [] H H' → Q (.int ((c.2.2 : Int) - (gotN rows k : Int))) H') ∧ (¬ (0 ≤ z ∧ z < cars.length) → OutCar CB H E)
theorem scLack : FnScope ["self", "number", "units"] ["self", "number"] (defScope sLack) := ⟨rfl, rfl, rfl, by decide +kernel, rfl, by decide +kernel, by decide +kernel⟩
theorem m_lack {f : Addr} {fd : FuncData} (F : Fun K "lack" "Plan.lack" sLack f fd) (M : Meth K C "lack" f) (PC : PlanC K C) (D : MGot P w K mg base C CB) : MethAt P w K mg base (L2.CX P w) 5 C "lack" ["self", "number"] (spLack C CB) := by
  have nd := scLack.nd
  refine ⟨f, fd, F.okX scLack (fun vs H Q E h => ?_) (fun cdv A outer s H vs Q E hr h => ?_), M, F.binds fun _ _ _ _ _ _ us hl => match us, hl with | [_, _], _ => rfl⟩
  · obtain ⟨_, _, _, _, _, _, _, _, _, rfl, _⟩ := h
    rfl
  · obtain ⟨O, Tt, S, w, cas, cars, has, rows, z, rfl, hP, hz, kq, ke⟩ := h
    refine ⟨_, (pss_cons (ps_set (i := 2) nd rfl (.inl rfl) (pe_mth D PC.cl hr passE (pv 0) (pa_cons (pv 1) pa_nil)))
      (pss_one (ps_ret (pe_op op_sub (pe_ix ix_tup (pe_ix ix_tup (pe_fld (pv 0) rfl) (pv 1) (fun _ _ => rfl)) pe_int (fun _ _ => rfl)) (pv 2))))), ?_⟩
    obtain ⟨dx, eO⟩ := hP.ob
    refine ⟨_, rfl, O, dx, _, rfl, eO, pf_m (by simp), _, rfl, O, Tt, S, w, cas, cars, has, rows, z, rfl, hP, hz, ?_, ke⟩
    rintro k rfl hk H1 f1
    have hc : cars[k]? = some cars[k] := List.getElem?_eq_getElem hk
    have hP1 := hP.frm f1 (by simp)
    have eO1 := f1.ins eO
    obtain ⟨a, ha, ea⟩ := hP1.car hc
    refine ⟨_, rfl, O, C, dx, _, _, rfl, eO1, PC.cl, PC.nC, pf_c _ _ _, _, rfl, Tt, _, _, _, rfl, rfl, SqT.of hP1.ct.1, atI_nat (map_ix ha), a, _, 2, _, rfl, rfl, SqT.of ea, atI_nat (j := 2) rfl, _, rfl, _, _, rfl, rfl, ?_⟩
    exact kq k _ rfl hc H1 f1
/-! ### hours_of -/
def spHoursOf (C : Addr) : Sp := fun vs H Q _ => ∃ (O T S : Addr) (w : Nat) (cas : List Addr) (cars : List Car) (has : List Addr) (rows : List (List Nat)) (k : Nat), vs = [.ref O, iv k] ∧ PlanAt C H O T S w cas cars has rows ∧ rows.length ≤ 1000 ∧ k < cars.length ∧
  ∀ H' L, Frm [] H H' → H L = none → H' L = some (.lst ((hoursIn rows k).map iv)) → Q (.ref L) H'
theorem scHoursOf : FnScope ["self", "number", "hour", "served"] ["self", "number"] (defScope sHoursOf) := ⟨rfl, rfl, rfl, by decide +kernel, rfl, by decide +kernel, by decide +kernel⟩
theorem m_hoursof {f : Addr} {fd : FuncData} (F : Fun K "hours_of" "Plan.hours_of" sHoursOf f fd) (M : Meth K C "hours_of" f) (T : Txt K mg) (PC : PlanC K C) (D : MCkCar P w K mg base C CB) : MethAt P w K mg base CX0 4 C "hours_of" ["self", "number"] (spHoursOf C) := by
  have nd := scHoursOf.nd
  refine ⟨f, fd, F.ok scHoursOf (fun vs H Q E h => ?_) (fun cdv A outer s H vs Q E hr h => ?_), M, F.binds fun _ _ _ _ _ _ us hl => match us, hl with | [_, _], _ => rfl⟩
  · obtain ⟨_, _, _, _, _, _, _, _, _, rfl, _⟩ := h
    rfl
  · obtain ⟨O, Tt, S, w, cas, cars, has, rows, k, rfl, hP, hz, hk, kq⟩ := h
    refine ⟨_, (pss_cons (ps_expr (pe_mth D PC.cl hr passL (pv 0) (pa_cons (pv 1) pa_nil)))
      (pss_one (ps_ret (pe_lc (own := [("hour", 2), ("served", 3)]) (g := gTup K 2 (gCons (gName 2) (gCons (gName 3) gNil))) rfl nd (pi_enum (by rfl) T.enumerate (pa_cons (pe_fld (pv 0) rfl) pa_nil)) (blkOk_by (own := [("hour", 2), ("served", 3)]) (N := ["self", "number", "hour", "served"]) (sc := defScope sHoursOf) (by decide +kernel)) (fun _ _ _ _ _ => pg_tup rfl (pgs_cons (pg_name (i := 2) nd rfl (Or.inl rfl)) (pgs_cons (pg_name (i := 3) nd rfl (Or.inl rfl)) pgs_nil))) (fun _ _ _ _ _ => pts_one (pt_cmpR (op_in_seqK K) (pv 1) (pv 3) (by rfl))) (fun _ _ _ _ _ => (pv 2)))))), ?_⟩
    obtain ⟨dx, eO⟩ := hP.ob
    refine ⟨_, rfl, O, dx, _, rfl, eO, pf_m (by simp), _, rfl, O, Tt, S, w, cas, cars, has, rows, k, rfl, hP, fun _ => ?_, fun q => absurd ⟨by omega, by omega⟩ q⟩
    refine ⟨_, rfl, O, C, dx, _, _, rfl, eO, PC.cl, PC.nH, pf_h _ _ _, S, _, rfl, SqL.of hP.hs, fun L hL => lc_enum (K := K) (a := S) (xs := refs has) (fun i H' => Frm [] H H' ∧ H' L = some (.lst (((List.range i).filter fun h => decide (k ∈ rows.getD h [])).map iv))) ⟨Frm.new hL, upd_same⟩ (fun i H' _ ⟨f, _⟩ => SqL.of (f.at hP.hs (by simp))) ?_ ?_⟩
    · rintro i y H' Tp hi ⟨fH, hL'⟩ hT
      obtain ⟨a, ha, rfl⟩ := ix_map hi
      obtain ⟨o, ho, ea⟩ := hP.ho.of ha
      obtain ⟨r, hr, rfl⟩ := ix_map ho
      have fT : Frm [] H (upd H' Tp (.tup [iv i, .ref a])) := fH.trans (Frm.new hT)
      have nTL : L ≠ Tp := ne_of_none hL' hT
      have eLT : upd H' Tp (.tup [iv i, .ref a]) L = some (.lst (((List.range i).filter fun h => decide (k ∈ rows.getD h [])).map iv)) := by rw [upd_ne nTL]; exact hL'
      have hlen : (((List.range i).filter fun h => decide (k ∈ rows.getD h [])).map iv).length ≤ i := by
        rw [List.length_map]
        exact Nat.le_trans (List.length_filter_le _ _) (by rw [List.length_range]; exact Nat.le_refl _)
      have hi' : i < rows.length := lt_of_ix hr
      refine ⟨Tp, _, rfl, SqT.of upd_same, rfl, _, _, rfl, _, _, rfl, rfl, rfl, ?_⟩
      refine ⟨_, rfl, _, rfl, a, _, rfl, .inr (SqT.of (fT.tup ea)), rfl, flat_iv r, _, rfl, ?_⟩
      show if inV (iv k) (r.map iv) = true then _ else _
      rw [inV_iv]
      refine ite2 (fun h => ?_) (fun h => ?_)
      · refine ⟨_, rfl, _, eLT, small1000 (by omega), fT.put hL, ?_⟩
        rw [upd_same, hoursIn_take, getD_of hr, if_pos (of_decide_eq_true h), List.map_append]
        rfl
      · refine ⟨fT, ?_⟩
        rw [eLT, hoursIn_take, getD_of hr, if_neg (fun q => h (decide_eq_true q)), List.append_nil]
    · rintro H' ⟨fH, hL'⟩
      rw [hP.hl] at hL'
      exact kq H' L fH hL hL'
end
end Oc
-- M1
set_option Elab.async false
set_option linter.all false
set_option maxHeartbeats 4000000
/-! The search for a chain: what holds between two turns, and what follows at its end. -/
namespace Oc
open PySem L2
abbrev Rows := List (List Nat)
def rowAt (rows : Rows) (h : Nat) : List Nat := rows.getD h []
theorem rowAt_of {rows : Rows} {h : Nat} {r : List Nat} (e : rows[h]? = some r) : rowAt rows h = r := by
  unfold rowAt
  rw [List.getD_eq_getElem?_getD, e]
  rfl
def freeL (rows : Rows) (c : Car) (k : Nat) : List Nat := (List.range' c.1 c.2.1).filter fun h => decide (k ∉ rowAt rows h)
theorem mem_freeL {rows : Rows} {c : Car} {k h : Nat} : h ∈ freeL rows c k ↔ (c.1 ≤ h ∧ h < c.1 + c.2.1) ∧ k ∉ rowAt rows h := by
  unfold freeL
  rw [List.mem_filter, List.mem_range'_1, decide_eq_true_eq]
/-- a look in a table of pairs -/
def lk {α : Type} : List (Nat × α) → Nat → Option α
  | [], _ => none
  | p :: r, k => if p.1 = k then some p.2 else lk r k
theorem lk_append {α : Type} : ∀ (a b : List (Nat × α)) (k : Nat), lk (a ++ b) k = (lk a k).or (lk b k)
  | [], b, k => by simp [lk]
  | p :: r, b, k => by
    show (if p.1 = k then some p.2 else lk (r ++ b) k) = (if p.1 = k then some p.2 else lk r k).or (lk b k)
    by_cases h : p.1 = k
    · rw [if_pos h, if_pos h]; rfl
    · rw [if_neg h, if_neg h, lk_append r b k]
theorem lk_snoc {α : Type} {a : List (Nat × α)} {k0 : Nat} {v : α} (h : lk a k0 = none) (k : Nat) : lk (a ++ [(k0, v)]) k = if k = k0 then some v else lk a k := by
  rw [lk_append]
  show (lk a k).or (if k0 = k then some v else none) = _
  by_cases e : k = k0
  · subst e
    rw [h, if_pos rfl]
    simp
  · rw [if_neg e, if_neg (fun q => e q.symm)]
    cases lk a k <;> rfl
theorem lk_none {α : Type} : ∀ {a : List (Nat × α)} {k : Nat}, k ∉ a.map (·.1) → lk a k = none
  | [], k, _ => rfl
  | p :: r, k, h => by
    rw [List.map_cons, List.mem_cons, not_or] at h
    show (if p.1 = k then some p.2 else lk r k) = none
    rw [if_neg (fun q => h.1 q.symm)]
    exact lk_none h.2
theorem lk_mem {α : Type} : ∀ {a : List (Nat × α)} {k : Nat} {v : α}, lk a k = some v → k ∈ a.map (·.1)
  | [], k, v, h => by cases h
  | p :: r, k, v, h => by
    rw [List.map_cons, List.mem_cons]
    by_cases e : p.1 = k
    · exact .inl e.symm
    · have h' : lk r k = some v := by
        have : (if p.1 = k then some p.2 else lk r k) = some v := h
        rwa [if_neg e] at this
      exact .inr (lk_mem h')
theorem lk_at {α : Type} : ∀ {a : List (Nat × α)} {i : Nat} {k : Nat} {v : α}, (a.map (·.1)).Nodup → a[i]? = some (k, v) → lk a k = some v
  | [], i, k, v, _, h => by simp at h
  | p :: r, 0, k, v, _, h => by
    have e : p = (k, v) := Option.some.inj h
    subst e
    show (if k = k then some v else _) = some v
    rw [if_pos rfl]
  | p :: r, i + 1, k, v, hn, h => by
    rw [List.map_cons, List.nodup_cons] at hn
    have hr : r[i]? = some (k, v) := h
    have hm : k ∈ r.map (·.1) := List.mem_map.mpr ⟨(k, v), List.mem_of_getElem? hr, rfl⟩
    show (if p.1 = k then some p.2 else lk r k) = some v
    rw [if_neg (fun e => hn.1 (by rw [e]; exact hm))]
    exact lk_at hn.2 hr
theorem nd_at {q : List Nat} (h : q.Nodup) {i j t : Nat} (a : q[i]? = some t) (b : q[j]? = some t) : i = j := by
  obtain ⟨h1, e1⟩ := List.getElem?_eq_some_iff.mp a
  obtain ⟨h2, e2⟩ := List.getElem?_eq_some_iff.mp b
  exact (List.getElem_inj h).mp (e1.trans e2.symm)
/-- the place of a number in a list -/
def posIn : List Nat → Nat → Nat
  | [], _ => 0
  | a :: r, t => if a = t then 0 else posIn r t + 1
theorem posIn_at : ∀ {q : List Nat} {j t : Nat}, q.Nodup → q[j]? = some t → posIn q t = j
  | [], j, t, _, h => by simp at h
  | a :: r, 0, t, _, h => by
    have e : a = t := Option.some.inj h
    subst e
    show (if a = a then 0 else _) = 0
    rw [if_pos rfl]
  | a :: r, j + 1, t, hn, h => by
    rw [List.nodup_cons] at hn
    have hr : r[j]? = some t := h
    show (if a = t then 0 else posIn r t + 1) = j + 1
    rw [if_neg (fun e => hn.1 (by rw [e]; exact List.mem_of_getElem? hr)), posIn_at hn.2 hr]

/-- the search's state: tk says of an hour who takes it, gv of a car in which hour it is met (none: the first), in the order of the queue; the first m of the queue were taken out -/
structure BI (cars : List Car) (rows : Rows) (n0 : Nat) (tk : List (Nat × Nat)) (gv : List (Nat × Option Nat)) (m : Nat) : Prop where
  nd : (gv.map (·.1)).Nodup
  hd : gv[0]? = some (n0, none)
  lt : ∀ k ∈ gv.map (·.1), k < cars.length
  gl : ∀ (i k : Nat) (o : Option Nat), gv[i]? = some (k, o) → 0 < i → ∃ h t j, o = some h ∧ lk tk h = some t ∧ j < i ∧ (gv.map (·.1))[j]? = some t ∧ k ∈ rowAt rows h
  tl : ∀ h t, lk tk h = some t → ∃ j, j < m ∧ (gv.map (·.1))[j]? = some t ∧ (∃ c, cars[t]? = some c ∧ c.1 ≤ h ∧ h < c.1 + c.2.1) ∧ t ∉ rowAt rows h ∧ h < rows.length
theorem BI.start {cars : List Car} {rows : Rows} {n0 : Nat} (h : n0 < cars.length) : BI cars rows n0 [] [(n0, none)] 0 where
  nd := by simp
  hd := rfl
  lt := fun k hk => by
    have e : k = n0 := by simpa using hk
    rw [e]; exact h
  gl := fun i k o e hi => by
    cases i with
    | zero => omega
    | succ i => simp at e
  tl := fun h t e => by cases e
theorem BI.more {cars : List Car} {rows : Rows} {n0 m m' : Nat} {tk : List (Nat × Nat)} {gv : List (Nat × Option Nat)} (B : BI cars rows n0 tk gv m) (h : m ≤ m') : BI cars rows n0 tk gv m' :=
  ⟨B.nd, B.hd, B.lt, B.gl, fun x t e => let ⟨j, h1, q⟩ := B.tl x t e; ⟨j, by omega, q⟩⟩
/-- an hour is taken by the car that was taken out last -/
theorem BI.hour {cars : List Car} {rows : Rows} {n0 m t h : Nat} {c : Car} {tk : List (Nat × Nat)} {gv : List (Nat × Option Nat)} (B : BI cars rows n0 tk gv (m + 1)) (hq : (gv.map (·.1))[m]? = some t) (hc : cars[t]? = some c) (hw : c.1 ≤ h ∧ h < c.1 + c.2.1)
    (hn : t ∉ rowAt rows h) (hl : h < rows.length) (h0 : lk tk h = none) : BI cars rows n0 (tk ++ [(h, t)]) gv (m + 1) := by
  refine ⟨B.nd, B.hd, B.lt, fun i k o e hi => ?_, fun x u e => ?_⟩
  · obtain ⟨x, u, j, e1, e2, e3⟩ := B.gl i k o e hi
    refine ⟨x, u, j, e1, ?_, e3⟩
    rw [lk_snoc h0]
    by_cases z : x = h
    · rw [z, h0] at e2; cases e2
    · rw [if_neg z]; exact e2
  · rw [lk_snoc h0] at e
    by_cases z : x = h
    · rw [if_pos z] at e
      cases e
      subst z
      exact ⟨m, Nat.lt_succ_self _, hq, ⟨c, hc, hw⟩, hn, hl⟩
    · rw [if_neg z] at e
      exact B.tl x u e
/-- a car is met in an hour that is taken -/
theorem BI.car {cars : List Car} {rows : Rows} {n0 m t h k : Nat} {tk : List (Nat × Nat)} {gv : List (Nat × Option Nat)} (B : BI cars rows n0 tk gv m) (ht : lk tk h = some t) (hk : k ∈ rowAt rows h) (hl : k < cars.length) (hn : k ∉ gv.map (·.1)) :
    BI cars rows n0 tk (gv ++ [(k, some h)]) m := by
  have hlen : ∀ {j u : Nat}, (gv.map (·.1))[j]? = some u → ((gv ++ [(k, some h)]).map (·.1))[j]? = some u := fun {j u} e => by
    rw [List.map_append, List.getElem?_append_left (List.getElem?_eq_some_iff.mp e).1]
    exact e
  obtain ⟨j0, _, e0, _⟩ := B.tl h t ht
  refine ⟨?_, ?_, fun x hx => ?_, fun i x o e hi => ?_, fun x u e => ?_⟩
  · rw [List.map_append]
    exact List.nodup_append.mpr ⟨B.nd, by simp, fun a ha b hb e => by
      have : b = k := by simpa using hb
      rw [e, this] at ha
      exact hn ha⟩
  · rw [List.getElem?_append_left (List.getElem?_eq_some_iff.mp B.hd).1]
    exact B.hd
  · rw [List.map_append] at hx
    rcases List.mem_append.mp hx with q | q
    · exact B.lt x q
    · have : x = k := by simpa using q
      rw [this]; exact hl
  · by_cases hi2 : i < gv.length
    · rw [List.getElem?_append_left hi2] at e
      obtain ⟨y, u, j, e1, e2, e3, e4, e5⟩ := B.gl i x o e hi
      exact ⟨y, u, j, e1, e2, e3, hlen e4, e5⟩
    · rw [List.getElem?_append_right (by omega)] at e
      cases hz : i - gv.length with
      | zero =>
        rw [hz] at e
        have e' : (k, some h) = (x, o) := Option.some.inj e
        cases e'
        have hj : j0 < gv.length := by
          have := (List.getElem?_eq_some_iff.mp e0).1
          rwa [List.length_map] at this
        exact ⟨h, t, j0, rfl, ht, by omega, hlen e0, hk⟩
      | succ z =>
        rw [hz] at e
        simp at e
  · obtain ⟨j, h1, h2, h3⟩ := B.tl x u e
    exact ⟨j, h1, hlen h2, h3⟩

/-- a chain of the plan from n0 on -/
structure ChainOk (w : Nat) (cars : List Car) (rows : Rows) (n0 : Nat) (ps : List (Nat × Nat)) : Prop where
  hd : ∃ h, ps[0]? = some (n0, h)
  ok : ∀ p ∈ ps, (∃ c, cars[p.1]? = some c ∧ c.1 ≤ p.2 ∧ p.2 < c.1 + c.2.1) ∧ p.2 < rows.length ∧ p.1 ∉ rowAt rows p.2
  link : ∀ (i : Nat) (p p' : Nat × Nat), ps[i]? = some p → ps[i + 1]? = some p' → p'.1 ∈ rowAt rows p.2
  ndc : (ps.map (·.1)).Nodup
  ndh : (ps.map (·.2)).Nodup
  last : ∀ p, ps.getLast? = some p → (rowAt rows p.2).length < w
/-- walking back: c the chain's end so far, o the next hour -/
structure CI (rows : Rows) (n0 h0 : Nat) (tk : List (Nat × Nat)) (q : List Nat) (c : List (Nat × Nat)) (o : Option Nat) : Prop where
  each : ∀ p ∈ c, lk tk p.2 = some p.1
  inc : (c.map fun p => posIn q p.1).Pairwise (· < ·)
  link : ∀ (i : Nat) (p p' : Nat × Nat), c[i]? = some p → c[i + 1]? = some p' → p'.1 ∈ rowAt rows p.2
  last : ∀ p, c.getLast? = some p → p.2 = h0
  cur : ∀ h, o = some h → ∃ t, lk tk h = some t ∧ (∀ p ∈ c, posIn q t < posIn q p.1) ∧ (∀ p, c[0]? = some p → p.1 ∈ rowAt rows h) ∧ (c = [] → h = h0)
  fin : o = none → ∃ h, c[0]? = some (n0, h)
theorem CI.start {rows : Rows} {n0 h0 t : Nat} {tk : List (Nat × Nat)} {q : List Nat} (h : lk tk h0 = some t) : CI rows n0 h0 tk q [] (some h0) where
  each := fun p hp => by cases hp
  inc := List.Pairwise.nil
  link := fun i p p' e => by simp at e
  last := fun p e => by cases e
  cur := fun x e => by
    cases e
    exact ⟨t, h, fun p hp => (by cases hp), fun p e => (by simp at e), fun _ => rfl⟩
  fin := fun e => by cases e
/-- one turn back -/
theorem CI.step {cars : List Car} {rows : Rows} {n0 h0 m h : Nat} {tk : List (Nat × Nat)} {gv : List (Nat × Option Nat)} {c : List (Nat × Nat)} (B : BI cars rows n0 tk gv m) (I : CI rows n0 h0 tk (gv.map (·.1)) c (some h)) :
    ∃ t o, lk tk h = some t ∧ lk gv t = some o ∧ CI rows n0 h0 tk (gv.map (·.1)) ((t, h) :: c) o ∧ ∀ h', o = some h' → ∃ t', lk tk h' = some t' ∧ posIn (gv.map (·.1)) t' < posIn (gv.map (·.1)) t := by
  obtain ⟨t, ht, hlt, hlk, hnil⟩ := I.cur h rfl
  obtain ⟨j, _, hj, _⟩ := B.tl h t ht
  obtain ⟨⟨k, o⟩, hg, rfl⟩ : ∃ p, gv[j]? = some p ∧ p.1 = t := by
    rw [List.getElem?_map] at hj
    cases e : gv[j]? with
    | none => rw [e] at hj; cases hj
    | some p => rw [e] at hj; exact ⟨p, rfl, Option.some.inj hj⟩
  have pj := posIn_at B.nd hj
  have back : ∀ h', o = some h' → ∃ t', lk tk h' = some t' ∧ posIn (gv.map (·.1)) t' < posIn (gv.map (·.1)) k ∧ k ∈ rowAt rows h' := fun h' eo => by
    by_cases hj0 : j = 0
    · subst hj0
      have e := B.hd.symm.trans hg
      cases e
      cases eo
    · obtain ⟨x, t', j', e1, e2, e3, e4, e5⟩ := B.gl j k o hg (by omega)
      rw [eo] at e1
      cases e1
      exact ⟨t', e2, by rw [pj, posIn_at B.nd e4]; exact e3, e5⟩
  refine ⟨k, o, ht, lk_at B.nd hg, ⟨fun p hp => ?_, ?_, fun i p p' e1 e2 => ?_, fun p e => ?_, fun h' eo => ?_, fun eo => ?_⟩, fun h' eo => let ⟨t', a, b, _⟩ := back h' eo; ⟨t', a, b⟩⟩
  · rcases List.mem_cons.mp hp with e | e
    · rw [e]; exact ht
    · exact I.each p e
  · rw [List.map_cons, List.pairwise_cons]
    refine ⟨fun x hx => ?_, I.inc⟩
    obtain ⟨p, hp, rfl⟩ := List.mem_map.mp hx
    exact hlt p hp
  · cases i with
    | zero =>
      have e : (k, h) = p := Option.some.inj e1
      subst e
      exact hlk p' e2
    | succ i => exact I.link i p p' e1 e2
  · cases hc : c with
    | nil =>
      rw [hc] at e
      have e' : (k, h) = p := Option.some.inj e
      rw [← e']
      exact hnil hc
    | cons a r =>
      rw [hc, List.getLast?_cons_cons] at e
      exact I.last p (by rw [hc]; exact e)
  · obtain ⟨t', a, b, d⟩ := back h' eo
    refine ⟨t', a, fun p hp => ?_, fun p e => ?_, fun e => by cases e⟩
    · rcases List.mem_cons.mp hp with z | z
      · rw [z]; exact b
      · exact Nat.lt_trans b (hlt p z)
    · have e' : (k, h) = p := Option.some.inj e
      rw [← e']
      exact d
  · subst eo
    by_cases hj0 : j = 0
    · subst hj0
      have e := B.hd.symm.trans hg
      cases e
      exact ⟨h, rfl⟩
    · obtain ⟨x, t', j', e1, _⟩ := B.gl j k none hg (by omega)
      cases e1
theorem nodup_of_inc {α : Type} {g : α → Nat} : ∀ {l : List α}, (l.map g).Pairwise (· < ·) → l.Pairwise fun a b => g a < g b
  | [], _ => .nil
  | a :: r, h => by
    rw [List.map_cons, List.pairwise_cons] at h
    exact List.pairwise_cons.mpr ⟨fun b hb => h.1 _ (List.mem_map_of_mem hb), nodup_of_inc h.2⟩
/-- the end -/
theorem CI.done {cars : List Car} {rows : Rows} {w n0 h0 m : Nat} {tk : List (Nat × Nat)} {gv : List (Nat × Option Nat)} {c : List (Nat × Nat)} (B : BI cars rows n0 tk gv m) (I : CI rows n0 h0 tk (gv.map (·.1)) c none) (hr : (rowAt rows h0).length < w) :
    ChainOk w cars rows n0 c where
  hd := I.fin rfl
  ok := fun p hp => by
    obtain ⟨j, _, _, h1, h2, h3⟩ := B.tl p.2 p.1 (I.each p hp)
    exact ⟨h1, h3, h2⟩
  link := I.link
  ndc := by
    have h := nodup_of_inc (g := fun p : Nat × Nat => posIn (gv.map (·.1)) p.1) I.inc
    unfold List.Nodup
    rw [List.pairwise_map]
    exact h.imp fun {a b} hab e => by rw [e] at hab; exact Nat.lt_irrefl _ hab
  ndh := by
    have h := nodup_of_inc (g := fun p : Nat × Nat => posIn (gv.map (·.1)) p.1) I.inc
    unfold List.Nodup
    rw [List.pairwise_map]
    refine h.imp_of_mem fun {a b} ha hb hab e => ?_
    have e1 := I.each a ha
    have e2 := I.each b hb
    rw [e, e2] at e1
    have : b.1 = a.1 := Option.some.inj e1
    rw [this] at hab
    exact Nat.lt_irrefl _ hab
  last := fun p e => by rw [I.last p e]; exact hr
/-- sets that are closed: cars that are in, hours that are in -/
structure Closed (cars : List Car) (rows : Rows) (Cs Hs : Nat → Prop) : Prop where
  hrs : ∀ (k : Nat) (c : Car), Cs k → cars[k]? = some c → ∀ h, c.1 ≤ h → h < c.1 + c.2.1 → k ∉ rowAt rows h → Hs h
  crs : ∀ h, Hs h → ∀ k ∈ rowAt rows h, Cs k
/-- nothing is left to be taken out: what was met is closed, and full -/
structure BEnd (w : Nat) (cars : List Car) (rows : Rows) (tk : List (Nat × Nat)) (gv : List (Nat × Option Nat)) (m : Nat) : Prop where
  full : ∀ h t, lk tk h = some t → w ≤ (rowAt rows h).length
  cl1 : ∀ h t, lk tk h = some t → ∀ k ∈ rowAt rows h, k ∈ gv.map (·.1)
  cl2 : ∀ (j t : Nat) (c : Car), j < m → (gv.map (·.1))[j]? = some t → cars[t]? = some c → ∀ h ∈ freeL rows c t, (lk tk h).isSome = true
theorem BEnd.start {w : Nat} {cars : List Car} {rows : Rows} {n0 : Nat} : BEnd w cars rows [] [(n0, none)] 0 :=
  ⟨fun h t e => (by cases e), fun h t e => (by cases e), fun j t c hj => (by omega)⟩
/-- no chain from n0: what the law looks for -/
def NoChain (w : Nat) (cars : List Car) (rows : Rows) (n0 : Nat) : Prop := ∃ Cs Hs : Nat → Prop, Closed cars rows Cs Hs ∧ Cs n0 ∧ ∀ h, Hs h → w ≤ (rowAt rows h).length
theorem BEnd.done {w : Nat} {cars : List Car} {rows : Rows} {n0 m : Nat} {tk : List (Nat × Nat)} {gv : List (Nat × Option Nat)} (B : BI cars rows n0 tk gv m) (E : BEnd w cars rows tk gv m) (hm : gv.length ≤ m) : NoChain w cars rows n0 := by
  refine ⟨fun k => k ∈ gv.map (·.1), fun h => (lk tk h).isSome = true, ⟨fun k c hk hc h h1 h2 h3 => ?_, fun h hh k hk => ?_⟩, ?_, fun h hh => ?_⟩
  · obtain ⟨j, hj, e⟩ := List.getElem_of_mem hk
    refine E.cl2 j k c (by rw [List.length_map] at hj; omega) ?_ hc h (mem_freeL.mpr ⟨⟨h1, h2⟩, h3⟩)
    rw [List.getElem?_eq_getElem hj, e]
  · obtain ⟨t, ht⟩ := Option.isSome_iff_exists.mp hh
    exact E.cl1 h t ht k hk
  · exact List.mem_map.mpr ⟨_, List.mem_of_getElem? B.hd, rfl⟩
  · obtain ⟨t, ht⟩ := Option.isSome_iff_exists.mp hh
    exact E.full h t ht
end Oc
-- M2
set_option Elab.async false
set_option linter.all false
set_option maxHeartbeats 4000000
/-! The search within one turn; its tables as dicts. -/
namespace Oc
open PySem L2
theorem nodup_len : ∀ (n : Nat) (l : List Nat), l.Nodup → (∀ x ∈ l, x < n) → l.length ≤ n
  | 0, l, _, h => by
    cases l with
    | nil => exact Nat.le_refl _
    | cons a r => exact absurd (h a List.mem_cons_self) (Nat.not_lt_zero _)
  | n + 1, l, hn, h => by
    by_cases hm : n ∈ l
    · have h1 := nodup_len n (l.erase n) (hn.erase n) (fun x hx => by
        have := h x (List.mem_of_mem_erase hx)
        have : x ≠ n := fun e => by
          rw [e] at hx
          exact absurd hx (hn.not_mem_erase)
        omega)
      rw [List.length_erase_of_mem hm] at h1
      omega
    · have h1 := nodup_len n l hn (fun x hx => by
        have := h x hx
        have : x ≠ n := fun e => hm (by rw [← e]; exact hx)
        omega)
      omega
theorem BI.len {cars : List Car} {rows : Rows} {n0 m : Nat} {tk : List (Nat × Nat)} {gv : List (Nat × Option Nat)} (B : BI cars rows n0 tk gv m) : gv.length ≤ cars.length := by
  have := nodup_len cars.length _ B.nd B.lt
  rwa [List.length_map] at this
/-- within a turn: Fs the hours of the car that were looked at, ex what is not yet met -/
structure BM (w : Nat) (cars : List Car) (rows : Rows) (tk : List (Nat × Nat)) (gv : List (Nat × Option Nat)) (m : Nat) (Fs : List Nat) (ex : Nat → Nat → Prop) : Prop where
  full : ∀ h t, lk tk h = some t → w ≤ (rowAt rows h).length
  cl1 : ∀ h t, lk tk h = some t → ∀ k ∈ rowAt rows h, ¬ ex h k → k ∈ gv.map (·.1)
  cl2 : ∀ (j t : Nat) (c : Car), j < m → (gv.map (·.1))[j]? = some t → cars[t]? = some c → ∀ h ∈ freeL rows c t, (lk tk h).isSome = true
  cur : ∀ h ∈ Fs, (lk tk h).isSome = true
section
variable {w : Nat} {cars : List Car} {rows : Rows} {tk : List (Nat × Nat)} {gv : List (Nat × Option Nat)} {m h t k : Nat} {Fs : List Nat} {ex ex' : Nat → Nat → Prop} {c : Car} {o : Option Nat}
theorem BM.of (E : BEnd w cars rows tk gv m) : BM w cars rows tk gv m [] fun _ _ => False := ⟨E.full, fun h t e k hk _ => E.cl1 h t e k hk, E.cl2, fun h hh => by cases hh⟩
theorem BM.weak (B : BM w cars rows tk gv m Fs ex) (i : ∀ a b, ex a b → ex' a b) : BM w cars rows tk gv m Fs ex' := ⟨B.full, fun h t e k hk hn => B.cl1 h t e k hk fun q => hn (i _ _ q), B.cl2, B.cur⟩
theorem BM.seen (B : BM w cars rows tk gv m Fs ex) (hs : (lk tk h).isSome = true) : BM w cars rows tk gv m (Fs ++ [h]) ex := ⟨B.full, B.cl1, B.cl2, fun x hx => by
  rcases List.mem_append.mp hx with q | q
  · exact B.cur x q
  · rw [List.mem_singleton.mp q]; exact hs⟩
theorem some_snoc {x : Nat} (h0 : lk tk h = none) (hs : (lk tk x).isSome = true) : (lk (tk ++ [(h, t)]) x).isSome = true := by
  rw [lk_snoc h0]
  by_cases e : x = h
  · rw [if_pos e]; rfl
  · rw [if_neg e]; exact hs
theorem BM.hour (B : BM w cars rows tk gv m Fs fun _ _ => False) (h0 : lk tk h = none) (hf : w ≤ (rowAt rows h).length) : BM w cars rows (tk ++ [(h, t)]) gv m (Fs ++ [h]) fun a b => a = h ∧ b ∈ rowAt rows h := by
  refine ⟨fun x u e => ?_, fun x u e k hk hn => ?_, fun j u c hj e1 e2 x hx => some_snoc h0 (B.cl2 j u c hj e1 e2 x hx), fun x hx => ?_⟩
  · rw [lk_snoc h0] at e
    by_cases z : x = h
    · rw [z]; exact hf
    · rw [if_neg z] at e
      exact B.full x u e
  · rw [lk_snoc h0] at e
    by_cases z : x = h
    · subst z
      exact absurd ⟨rfl, hk⟩ hn
    · rw [if_neg z] at e
      exact B.cl1 x u e k hk (fun q => q)
  · rcases List.mem_append.mp hx with q | q
    · exact some_snoc h0 (B.cur x q)
    · rw [List.mem_singleton.mp q, lk_snoc h0, if_pos rfl]
      rfl
theorem BM.met (B : BM w cars rows tk gv m Fs ex) (hk : k ∈ gv.map (·.1)) : BM w cars rows tk gv m Fs fun a b => ex a b ∧ b ≠ k := ⟨B.full, fun x u e b hb hn => by
  by_cases z : b = k
  · rw [z]; exact hk
  · exact B.cl1 x u e b hb fun q => hn ⟨q, z⟩, B.cl2, B.cur⟩
theorem BM.car (B : BM w cars rows tk gv m Fs ex) (hm : m ≤ gv.length) : BM w cars rows tk (gv ++ [(k, o)]) m Fs fun a b => ex a b ∧ b ≠ k := by
  refine ⟨B.full, fun x u e b hb hn => ?_, fun j u c hj e1 e2 x hx => ?_, B.cur⟩
  · rw [List.map_append]
    by_cases z : b = k
    · exact List.mem_append_right _ (by rw [z]; exact List.mem_singleton.mpr rfl)
    · exact List.mem_append_left _ (B.cl1 x u e b hb fun q => hn ⟨q, z⟩)
  · rw [List.map_append, List.getElem?_append_left (by rw [List.length_map]; omega)] at e1
    exact B.cl2 j u c hj e1 e2 x hx
theorem BM.turn (B : BM w cars rows tk gv m (freeL rows c t) fun _ _ => False) (hq : (gv.map (·.1))[m]? = some t) (hc : cars[t]? = some c) : BEnd w cars rows tk gv (m + 1) := by
  refine ⟨B.full, fun x u e k hk => B.cl1 x u e k hk fun q => q, fun j u d hj e1 e2 x hx => ?_⟩
  by_cases z : j = m
  · subst z
    rw [hq] at e1
    cases e1
    rw [hc] at e2
    cases e2
    exact B.cur x hx
  · exact B.cl2 j u d (by omega) e1 e2 x hx
end
/-! ### the tables as dicts -/
def ov : Option Nat → V
  | none => .non
  | some h => iv h
def tkD (tk : List (Nat × Nat)) : List (Key × V) := tk.map fun p => (Sum.inl (p.1 : Int), iv p.2)
def gvD (gv : List (Nat × Option Nat)) : List (Key × V) := gv.map fun p => (Sum.inl (p.1 : Int), ov p.2)
theorem valV_lk {α : Type} (f : α → V) : ∀ (l : List (Nat × α)) (k : Nat), valV (l.map fun p => ((Sum.inl (p.1 : Int) : Key), f p.2)) (Sum.inl (k : Int)) = (lk l k).map f
  | [], k => rfl
  | p :: r, k => by
    rw [List.map_cons]
    by_cases h : p.1 = k
    · rw [valV_pos (by show (Sum.inl (p.1 : Int) : Key) = Sum.inl (k : Int); rw [h])]
      show some (f p.2) = (if p.1 = k then some p.2 else lk r k).map f
      rw [if_pos h]
      rfl
    · rw [valV_neg (fun e : (Sum.inl (p.1 : Int) : Key) = Sum.inl (k : Int) => h (by have := Sum.inl.inj e; omega)), valV_lk f r k]
      show _ = (if p.1 = k then some p.2 else lk r k).map f
      rw [if_neg h]
theorem put_lk {α : Type} (f : α → V) {l : List (Nat × α)} {k : Nat} (v : α) (h : lk l k = none) : putK (l.map fun p => ((Sum.inl (p.1 : Int) : Key), f p.2)) (Sum.inl (k : Int)) (f v) = (l ++ [(k, v)]).map fun p => ((Sum.inl (p.1 : Int) : Key), f p.2) := by
  rw [putK_new _ (by rw [valV_lk, h]; rfl), List.map_append]
  rfl
theorem dget_tk {H : Hp} {a : Addr} {tk : List (Nat × Nat)} (e : H a = some (.dK (tkD tk))) (h : Nat) : DGet H a (iv h) ((lk tk h).map iv) := by
  have q := DGet.k (k := Sum.inl (h : Int)) e
  rw [show valV (tkD tk) (Sum.inl (h : Int)) = (lk tk h).map iv from valV_lk iv tk h] at q
  exact q
theorem dget_gv {H : Hp} {a : Addr} {gv : List (Nat × Option Nat)} (e : H a = some (.dK (gvD gv))) (k : Nat) : DGet H a (iv k) ((lk gv k).map ov) := by
  have q := DGet.k (k := Sum.inl (k : Int)) e
  rw [show valV (gvD gv) (Sum.inl (k : Int)) = (lk gv k).map ov from valV_lk ov gv k] at q
  exact q
theorem dput_tk {H : Hp} {a : Addr} {tk : List (Nat × Nat)} {h t : Nat} (e : H a = some (.dK (tkD tk))) (h0 : lk tk h = none) (hl : tk.length ≤ 1000) : DPut H a (iv h) (iv t) (upd H a (.dK (tkD (tk ++ [(h, t)])))) := by
  have q := DPut.k (k := Sum.inl (h : Int)) (v := iv t) e (small1000 (by unfold tkD; rw [List.length_map]; exact hl))
  rw [show putK (tkD tk) (Sum.inl (h : Int)) (iv t) = tkD (tk ++ [(h, t)]) from put_lk iv t h0] at q
  exact q
theorem dput_gv {H : Hp} {a : Addr} {gv : List (Nat × Option Nat)} {k h : Nat} (e : H a = some (.dK (gvD gv))) (h0 : lk gv k = none) (hl : gv.length ≤ 1000) : DPut H a (iv k) (iv h) (upd H a (.dK (gvD (gv ++ [(k, some h)])))) := by
  have q := DPut.k (k := Sum.inl (k : Int)) (v := iv h) e (small1000 (by unfold gvD; rw [List.length_map]; exact hl))
  rw [show putK (gvD gv) (Sum.inl (k : Int)) (iv h) = gvD (gv ++ [(k, some h)]) from put_lk ov (some h) h0] at q
  exact q
/-- the hours that are taken are not more than the plan has -/
theorem tk_len {cars : List Car} {rows : Rows} {n0 m : Nat} {tk : List (Nat × Nat)} {gv : List (Nat × Option Nat)} (B : BI cars rows n0 tk gv m) (hn : (tk.map (·.1)).Nodup) : tk.length ≤ rows.length := by
  have := nodup_len rows.length _ hn (fun h hh => by
    obtain ⟨⟨x, t⟩, hp, rfl⟩ := List.mem_map.mp hh
    obtain ⟨i, hi, e⟩ := List.getElem_of_mem hp
    have q : lk tk x = some t := lk_at hn (by rw [List.getElem?_eq_getElem hi, e])
    obtain ⟨_, _, _, _, _, z⟩ := B.tl x t q
    exact z)
  rwa [List.length_map] at this
theorem tk_nd {tk : List (Nat × Nat)} {h t : Nat} (hn : (tk.map (·.1)).Nodup) (h0 : lk tk h = none) : ((tk ++ [(h, t)]).map (·.1)).Nodup := by
  rw [List.map_append]
  refine List.nodup_append.mpr ⟨hn, by simp, fun a ha b hb e => ?_⟩
  have hbh : b = h := by simpa using hb
  rw [e, hbh] at ha
  obtain ⟨⟨x, u⟩, hp, hx⟩ := List.mem_map.mp ha
  obtain ⟨i, hi, e2⟩ := List.getElem_of_mem hp
  have hx : x = h := hx
  subst hx
  have q : lk tk x = some u := lk_at hn (by rw [List.getElem?_eq_getElem hi, e2])
  rw [h0] at q
  cases q
end Oc
-- F1
set_option Elab.async false
set_option linter.all false
set_option maxRecDepth 100000
set_option maxHeartbeats 4000000
/-! free_hours, chain_to. -/
namespace Oc
open PySem PySem.Spec PyProof.Rows L2
theorem freeL_more {rows : Rows} {s i k : Nat} : (List.range' s (i + 1)).filter (fun h => decide (k ∉ rowAt rows h)) = (List.range' s i).filter (fun h => decide (k ∉ rowAt rows h)) ++ if k ∈ rowAt rows (s + i) then [] else [s + i] := by
  rw [List.range'_1_concat, List.filter_append]
  congr 1
  by_cases h : k ∈ rowAt rows (s + i)
  · rw [if_pos h, List.filter_cons_of_neg (by simpa using h)]
    rfl
  · rw [if_neg h, List.filter_cons_of_pos (by simpa using h)]
    rfl
abbrev pairO (p : Nat × Nat) : HO := .tup [iv p.1, iv p.2]
section
variable {P : Program} {w : World} {K : PySem.W.Frag} {mg : Str → Option Value} {base : Heap} {C CB fI cc cda : Addr}
abbrev MGet (P : Program) (w : World) (K : PySem.W.Frag) (mg : Str → Option Value) (base : Heap) (C : Addr) : Prop := MethAt P w K mg base CX0 2 C "__getitem__" ["self", "hour"] (spGet C)
/-! ### free_hours -/
def spFree (C : Addr) : Sp := fun vs H Q _ => ∃ (O T S : Addr) (w : Nat) (cas : List Addr) (cars : List Car) (has : List Addr) (rows : Rows) (k : Nat) (c : Car), vs = [.ref O, iv k] ∧ PlanAt C H O T S w cas cars has rows ∧ rows.length ≤ 1000 ∧ cars[k]? = some c ∧ c.1 + c.2.1 ≤ rows.length ∧
  ∀ H' L, Frm [] H H' → H L = none → H' L = some (.lst ((freeL rows c k).map iv)) → Q (.ref L) H'
theorem scFree : FnScope ["plan", "number", "come", "stay", "_", "hour"] ["plan", "number"] (defScope sFree) := ⟨rfl, rfl, rfl, by decide +kernel, rfl, by decide +kernel, by decide +kernel⟩
theorem d_free {f : Addr} {fd : FuncData} (F : Fun K "free_hours" "free_hours" sFree f fd) (g : mg "free_hours" = some (.ref f)) (T : Txt K mg) (PC : PlanC K C) (D : MGet P w K mg base C) : DefAt P w K mg base CX0 4 "free_hours" ["plan", "number"] (spFree C) := by
  have nd := scFree.nd
  refine ⟨f, fd, F.ok scFree (fun vs H Q E h => ?_) (fun cdv A outer s H vs Q E hr h => ?_), g, F.kp, F.binds fun _ _ _ _ _ _ us hl => match us, hl with | [_, _], _ => rfl⟩
  · obtain ⟨_, _, _, _, _, _, _, _, _, _, rfl, _⟩ := h
    rfl
  · obtain ⟨O, Tt, S, w, cas, cars, has, rows, k, c, rfl, hP, hz, hc, hcl, kq⟩ := h
    refine ⟨_, (pss_cons (ps_asg (pe_ix ix_tup (pe_fld (pv 0) rfl) (pv 1) (fun _ _ => rfl)) (pg_tup (by rfl) (pgs_cons (pg_name (i := 2) nd rfl (.inl rfl)) (pgs_cons (pg_name (i := 3) nd rfl (.inl rfl)) (pgs_cons (pg_name (i := 4) nd rfl (.inl rfl)) pgs_nil)))))
      (pss_one (ps_ret (pe_lc (own := [("hour", 5)]) (g := gName 5) rfl nd (pi_range2 rfl T.range (pa_cons (pv 2) (pa_cons (pe_op op_add (pv 2) (pv 3)) pa_nil))) (blkOk_by (own := [("hour", 5)]) (N := ["plan", "number", "come", "stay", "_", "hour"]) (sc := defScope sFree) (by decide +kernel)) (fun _ _ _ _ _ => pg_name (i := 5) nd rfl (Or.inl rfl)) (fun _ _ _ _ _ => pts_one (pt_cmpR (op_notIn_seqK K) (pv 1) (pe_getOwn D PC.fnGet hr pass0 (pv 0) (pv 5)) (by rfl))) (fun _ _ _ _ _ => (pv 5)))))), ?_⟩
    obtain ⟨dx, eO⟩ := hP.ob
    obtain ⟨a, ha, ea⟩ := hP.car hc
    refine ⟨_, rfl, O, C, dx, _, _, rfl, eO, PC.cl, PC.nC, pf_c _ _ _, _, rfl, Tt, _, _, _, rfl, rfl, SqT.of hP.ct.1, atI_nat (map_ix ha), a, _, rfl, SqT.of ea, rfl, _, _, rfl, _, _, rfl, _, _, rfl, rfl, ?_⟩
    have en : ((c.1 : Int) + (c.2.1 : Int) - (c.1 : Int)).toNat = c.2.1 := by omega
    refine ⟨_, rfl, _, rfl, _, rfl, _, _, rfl, rfl, (c.1 : Int), (c.1 : Int) + (c.2.1 : Int), rfl, ⟨by omega, by omega, by omega, by omega⟩, ?_⟩
    rw [en]
    intro L hL
    refine lc_range (lo := (c.1 : Int)) (n := c.2.1) (fun i H' => H' = upd H L (.lst (((List.range' c.1 i).filter fun h => decide (k ∉ rowAt rows h)).map iv))) rfl ?_ ?_
    · rintro i H' hi rfl
      have hr' : rows[c.1 + i]? = some rows[c.1 + i] := List.getElem?_eq_getElem (by omega)
      have hP1 : PlanAt C (upd H L (.lst (((List.range' c.1 i).filter fun h => decide (k ∉ rowAt rows h)).map iv))) O Tt S w cas cars has rows := hP.frm (Frm.new (l := []) hL) (by simp)
      have hlen : (((List.range' c.1 i).filter fun h => decide (k ∉ rowAt rows h)).map iv).length ≤ i := by
        rw [List.length_map]
        exact Nat.le_trans (List.length_filter_le _ _) (by rw [List.length_range']; exact Nat.le_refl _)
      refine ⟨rfl, _, rfl, _, rfl, _, rfl, O, dx, _, rfl, (Frm.new (l := []) hL).ins eO, O, Tt, S, w, cas, cars, has, rows, c.1 + i, _, rfl, hP1, hr', fun ra era => ?_⟩
      refine ⟨ra, _, rfl, .inr (SqT.of era), rfl, flat_iv _, _, rfl, ?_⟩
      show if (!inV (iv k) ((rows[c.1 + i]).map iv)) = true then _ else _
      rw [inV_iv]
      have st := freeL_more (rows := rows) (s := c.1) (i := i) (k := k)
      rw [rowAt_of hr'] at st
      by_cases h : k ∈ rows[c.1 + i]
      · refine iteNS h ?_
        rw [st, if_pos h, List.append_nil]
      · refine ifnd h ⟨_, rfl, _, upd_same, small1000 (by omega), ?_⟩
        rw [upd_upd, st, if_neg h, List.map_append]
        rfl
    · rintro H' rfl
      exact kq _ L (Frm.new hL) hL upd_same
/-! ### chain_to -/
def spChainTo : Sp := fun vs H Q _ => ∃ (tA gA : Addr) (w : Nat) (cars : List Car) (rows : Rows) (n0 h0 t m : Nat) (tk : List (Nat × Nat)) (gv : List (Nat × Option Nat)), vs = [iv h0, .ref tA, .ref gA] ∧ H tA = some (.dK (tkD tk)) ∧ H gA = some (.dK (gvD gv)) ∧
  BI cars rows n0 tk gv m ∧ cars.length ≤ 1000 ∧ lk tk h0 = some t ∧ (rowAt rows h0).length < w ∧
  ∀ H' L as ps, ChainOk w cars rows n0 ps → Frm [] H H' → H L = none → H' L = some (.lst (refs as)) → Objs H' as (ps.map pairO) → Q (.ref L) H'
theorem scChainTo : FnScope ["hour", "takers", "given", "chain"] ["hour", "takers", "given"] (defScope sChainTo) := ⟨rfl, rfl, rfl, by decide +kernel, rfl, by decide +kernel, by decide +kernel⟩
theorem d_chainto {f : Addr} {fd : FuncData} (F : Fun K "chain_to" "chain_to" sChainTo f fd) (g : mg "chain_to" = some (.ref f)) : DefAt P w K mg base CX0 1 "chain_to" ["hour", "takers", "given"] spChainTo := by
  have nd := scChainTo.nd
  refine ⟨f, fd, F.ok scChainTo (fun vs H Q E h => ?_) (fun cdv A outer s H vs Q E hr h => ?_), g, F.kp, F.binds fun _ _ _ _ _ _ us hl => match us, hl with | [_, _, _], _ => rfl⟩
  · obtain ⟨_, _, _, _, _, _, _, _, _, _, _, rfl, _⟩ := h
    rfl
  · obtain ⟨tA, gA, w, cars, rows, n0, h0, t, m, tk, gv, rfl, eT, eG, B, hz, ht, hrm, kq⟩ := h
    have hu := hu_of hr
    refine ⟨_, (pss_cons (ps_set (i := 3) nd rfl (.inl rfl) (pe_lst pa_nil))
      (pss_cons (ps_while PassesOwn.never (pt_cmpR op_notN (pv 0) pe_non (nomark _))
        (pss_cons (ps_expr (pe_bm PySem.F.plainAttrs_list PySem.F.slot_list_append PySem.F.type_list_append mt_append (pv 3) (pa_cons (pe_tup (pa_cons (pe_dget hu (pv 1) (pv 0) (fun _ _ => rfl)) (pa_cons (pv 0) pa_nil))) pa_nil)))
        (pss_one (ps_set (i := 0) nd rfl (.inl rfl) (pe_dget hu (pv 2) (pe_dget hu (pv 1) (pv 0) (fun _ _ => rfl)) (fun _ _ => rfl))))))
      (pss_one (ps_ret (pe_revL (pv 3)))))), ?_⟩
    refine ⟨Nat.zero_le _, fun L hL => ?_⟩
    have hgl := B.len
    refine ⟨fun mm σ H' => ∃ (o : Option Nat) (c : List (Nat × Nat)) (as : List Addr), σ = [some (ov o), some (.ref tA), some (.ref gA), some (.ref L)] ∧ CI rows n0 h0 tk (gv.map (·.1)) c o ∧ Frm [] H H' ∧ H' L = some (.lst (refs as.reverse)) ∧ Objs H' as (c.map pairO) ∧
      c.length + mm ≤ gv.length ∧ ∀ h, o = some h → ∃ t, lk tk h = some t ∧ posIn (gv.map (·.1)) t < mm, ⟨gv.length, some h0, [], [], rfl, CI.start ht, Frm.new hL, upd_same, Objs.nil, (by simp), fun h e => ?_⟩, fun mm σ H' hW => ?_⟩
    · cases e
      obtain ⟨j, _, hj, _⟩ := B.tl h0 t ht
      refine ⟨t, ht, ?_⟩
      rw [posIn_at B.nd hj]
      have := (List.getElem?_eq_some_iff.mp hj).1
      rwa [List.length_map] at this
    · obtain ⟨o, c, as, rfl, I, f1, eL, hO, hlen, hmm⟩ := hW
      refine ⟨_, rfl, rfl, _, rfl, ?_⟩
      cases o with
      | none =>
        refine iteNS rfl ?_
        refine ⟨_, rfl, L, _, rfl, SqL.of eL, fun p hp => ?_⟩
        refine kq _ p as c (I.done B hrm) (f1.trans (Frm.new hp)) (f1.free hp) ?_ (hO.frmT (g := fun p : Nat × Nat => [iv p.1, iv p.2]) (Frm.new (l := []) hp))
        rw [upd_same, ← List.map_reverse, List.reverse_reverse]
      | some h =>
        refine ifnd (fun e => by cases e) ?_
        obtain ⟨t', o', e1, e2, I', hb⟩ := I.step B
        obtain ⟨t2, e3, hpos⟩ := hmm h rfl
        rw [e1] at e3
        cases e3
        have eT1 := f1.dk eT
        have eG1 := f1.dk eG
        have gT : DGet H' tA (iv h) (some (iv t')) := by
          have q := dget_tk eT1 h
          rwa [e1] at q
        refine ⟨fun σ' H'' => ∃ mm', mm' < mm ∧ ∃ (o : Option Nat) (c : List (Nat × Nat)) (as : List Addr), σ' = [some (ov o), some (.ref tA), some (.ref gA), some (.ref L)] ∧ CI rows n0 h0 tk (gv.map (·.1)) c o ∧ Frm [] H H'' ∧ H'' L = some (.lst (refs as.reverse)) ∧ Objs H'' as (c.map pairO) ∧
          c.length + mm' ≤ gv.length ∧ ∀ h, o = some h → ∃ t, lk tk h = some t ∧ posIn (gv.map (·.1)) t < mm', fun σ' H'' z => z, ?_⟩
        refine ⟨_, rfl, .inl ⟨rfl, _, SqL.of eL⟩, _, rfl, _, rfl, tA, _, rfl, gT, _, rfl, (by show 2 ≤ sizeLine; decide), fun p hp => ?_⟩
        have npL : L ≠ p := ne_of_none eL hp
        have eLp : upd H' p (.tup [iv t', iv h]) L = some (.lst (refs as.reverse)) := by rw [upd_ne npL]; exact eL
        have hal : as.length = c.length := by rw [hO.1, List.length_map]
        refine ⟨L, _, _, rfl, rfl, eLp, small1000 (by rw [List.length_map, List.length_reverse]; omega), ?_⟩
        have f2 : Frm [] H (upd (upd H' p (.tup [iv t', iv h])) L (.lst (refs as.reverse ++ [.ref p]))) := (f1.trans (Frm.new hp)).put hL
        have gT2 : DGet (upd (upd H' p (.tup [iv t', iv h])) L (.lst (refs as.reverse ++ [.ref p]))) tA (iv h) (some (iv t')) := by
          have q := dget_tk (f2.dk eT) h
          rwa [e1] at q
        have gG2 : DGet (upd (upd H' p (.tup [iv t', iv h])) L (.lst (refs as.reverse ++ [.ref p]))) gA (iv t') (some (ov o')) := by
          have q := dget_gv (f2.dk eG) t'
          rwa [e2] at q
        refine ⟨_, rfl, _, rfl, _, rfl, tA, _, rfl, gT2, gA, _, rfl, gG2, ?_⟩
        have fL : Frm [L] H' (upd (upd H' p (.tup [iv t', iv h])) L (.lst (refs as.reverse ++ [.ref p]))) := (Frm.new hp).trans (Frm.set (List.mem_singleton.mpr rfl) eLp)
        refine ⟨posIn (gv.map (·.1)) t', by omega, o', (t', h) :: c, p :: as, rfl, I', f2, ?_, ?_, by rw [List.length_cons]; omega, fun h' eo => ?_⟩
        · rw [upd_same, List.reverse_cons]
          show _ = some (HO.lst ((as.reverse ++ [p]).map V.ref))
          rw [List.map_append]
          rfl
        · have q := hO.frmT (g := fun p : Nat × Nat => [iv p.1, iv p.2]) fL
          refine ⟨by rw [List.length_cons, List.map_cons, List.length_cons, q.1], fun i b u e1 e2 => ?_⟩
          cases i with
          | zero =>
            cases e1
            cases e2
            rw [upd_ne npL.symm, upd_same]
            rfl
          | succ i => exact q.2 i b u e1 e2
        · obtain ⟨t3, e5, e6⟩ := hb h' eo
          exact ⟨t3, e5, e6⟩
end
end Oc
-- F2
set_option Elab.async false
set_option linter.all false
set_option maxRecDepth 100000
set_option maxHeartbeats 4000000
/-! find_chain. -/
namespace Oc
open PySem PySem.Spec PyProof.Rows L2
section
variable {P : Program} {w : World} {K : PySem.W.Frag} {mg : Str → Option Value} {base : Heap} {C CB fI cc cda : Addr}
abbrev MLack (P : Program) (w : World) (K : PySem.W.Frag) (mg : Str → Option Value) (base : Heap) (C CB : Addr) : Prop := MethAt P w K mg base (L2.CX P w) 5 C "lack" ["self", "number"] (spLack C CB)
abbrev MRoom (P : Program) (w : World) (K : PySem.W.Frag) (mg : Str → Option Value) (base : Heap) (C : Addr) : Prop := MethAt P w K mg base CX0 2 C "room" ["self", "hour"] (spRoom C)
abbrev DFree (P : Program) (w : World) (K : PySem.W.Frag) (mg : Str → Option Value) (base : Heap) (C : Addr) : Prop := DefAt P w K mg base CX0 4 "free_hours" ["plan", "number"] (spFree C)
abbrev DChainTo (P : Program) (w : World) (K : PySem.W.Frag) (mg : Str → Option Value) (base : Heap) : Prop := DefAt P w K mg base CX0 1 "chain_to" ["hour", "takers", "given"] spChainTo
/-- what the search leans on -/
structure Sized (cars : List Car) (rows : Rows) : Prop where
  rl : rows.length ≤ 1000
  cl : cars.length ≤ 1000
  win : ∀ c ∈ cars, c.1 + c.2.1 ≤ rows.length
  mem : ∀ r ∈ rows, ∀ k ∈ r, k < cars.length
def spFind (C CB : Addr) : Sp := fun vs H Q E => ∃ (O T S : Addr) (w : Nat) (cas : List Addr) (cars : List Car) (has : List Addr) (rows : Rows) (z : Int), vs = [.ref O, .int z] ∧ PlanAt C H O T S w cas cars has rows ∧ Sized cars rows ∧
  (∀ (k : Nat) (c : Car), z = k → cars[k]? = some c → ((gotN rows k = c.2.2 ∨ NoChain w cars rows k) → ∀ H', Frm [] H H' → Q .non H') ∧
    ∀ H' L as ps, gotN rows k ≠ c.2.2 → ChainOk w cars rows k ps → Frm [] H H' → H L = none → H' L = some (.lst (refs as)) → Objs H' as (ps.map pairO) → Q (.ref L) H') ∧
  (¬ (0 ≤ z ∧ z < cars.length) → OutCar CB H E)
theorem scFind : FnScope ["plan", "number", "takers", "given", "queue", "at", "taker", "hour", "other"] ["plan", "number"] (defScope sFind) := ⟨rfl, rfl, rfl, by decide +kernel, rfl, by decide +kernel, by decide +kernel⟩
/-- the search's objects -/
structure FS (H0 H : Hp) (tA gA qA : Addr) (tk : List (Nat × Nat)) (gv : List (Nat × Option Nat)) : Prop where
  f : Frm [] H0 H
  t : H tA = some (.dK (tkD tk))
  g : H gA = some (.dK (gvD gv))
  q : H qA = some (.lst ((gv.map (·.1)).map iv))
structure FNew (H0 : Hp) (tA gA qA : Addr) : Prop where
  t : H0 tA = none
  g : H0 gA = none
  q : H0 qA = none
  tg : tA ≠ gA
  tq : tA ≠ qA
  gq : gA ≠ qA
theorem FS.frm {H0 H H' : Hp} {tA gA qA : Addr} {tk : List (Nat × Nat)} {gv : List (Nat × Option Nat)} (s : FS H0 H tA gA qA tk gv) (f : Frm [] H H') : FS H0 H' tA gA qA tk gv := ⟨s.f.trans f, f.dk s.t, f.dk s.g, f.at s.q (by simp)⟩
theorem FS.putT {H0 H : Hp} {tA gA qA h t : Addr} {tk : List (Nat × Nat)} {gv : List (Nat × Option Nat)} (s : FS H0 H tA gA qA tk gv) (n : FNew H0 tA gA qA) : FS H0 (upd H tA (.dK (tkD (tk ++ [(h, t)])))) tA gA qA (tk ++ [(h, t)]) gv :=
  ⟨s.f.put n.t, upd_same, (upd_ne n.tg.symm).trans s.g, (upd_ne n.tq.symm).trans s.q⟩
theorem FS.putG {H0 H : Hp} {tA gA qA k : Addr} {o : Option Nat} {tk : List (Nat × Nat)} {gv : List (Nat × Option Nat)} (s : FS H0 H tA gA qA tk gv) (n : FNew H0 tA gA qA) :
    FS H0 (upd (upd H gA (.dK (gvD (gv ++ [(k, o)])))) qA (.lst ((gv.map (·.1)).map iv ++ [iv k]))) tA gA qA tk (gv ++ [(k, o)]) :=
  ⟨(s.f.put n.g).put n.q, (upd_ne n.tq).trans ((upd_ne n.tg).trans s.t), (upd_ne n.gq).trans upd_same, by rw [upd_same, List.map_append, List.map_append]; rfl⟩
theorem d_find {f : Addr} {fd : FuncData} (F : Fun K "find_chain" "find_chain" sFind f fd) (g : mg "find_chain" = some (.ref f)) (T : Txt K mg) (PC : PlanC K C) (DL : MLack P w K mg base C CB) (DG : MGet P w K mg base C) (DR : MRoom P w K mg base C) (DF : DFree P w K mg base C) (DC : DChainTo P w K mg base) :
    DefAt P w K mg base (L2.CX P w) 6 "find_chain" ["plan", "number"] (spFind C CB) := by
  have nd := scFind.nd
  refine ⟨f, fd, F.okX scFind (fun vs H Q E h => ?_) (fun cdv A outer s H vs Q E hr h => ?_), g, F.kp, F.binds fun _ _ _ _ _ _ us hl => match us, hl with | [_, _], _ => rfl⟩
  · obtain ⟨_, _, _, _, _, _, _, _, _, rfl, _⟩ := h
    rfl
  · obtain ⟨O, Tt, S, w, cas, cars, has, rows, z, rfl, hP, hZ, kq, ke⟩ := h
    have hu := hu_of hr
    have hr4 : Room 4 _ := hr.mono (by decide)
    have hr3 : Room 3 _ := hr.mono (by decide)
    have hr2 : Room 2 _ := hr.mono (by decide)
    have hr1 : Room 1 _ := hr.mono (by decide)
    refine ⟨_, (pss_cons (ps_if (pt_cmpR op_eq (pe_mth DL PC.cl hr passE (pv 0) (pa_cons (pv 1) pa_nil)) pe_int (nomark _))
        (pss_one (ps_ret pe_non))
        pss_nil)
      (PSs.nox (pss_cons (ps_set (i := 2) nd rfl (.inl rfl) pe_dnewK)
      (pss_cons (ps_set (i := 3) nd rfl (.inl rfl) (pe_disp (pps_cons (pv 1) pe_non pps_nil) (by rfl) (by rfl) (fun z => by cases z) (by decide)))
      (pss_cons (ps_set (i := 4) nd rfl (.inl rfl) (pe_lst (pa_cons (pv 1) pa_nil)))
      (pss_cons (ps_set (i := 5) nd rfl (.inl rfl) pe_int)
      (pss_cons (ps_while PassesOwn.never (pt_cmpR op_lt (pv 5) (pe_callB call_len_seq (by rfl) T.len PySem.boot_len (pa_cons (pv 4) pa_nil)) (nomark _))
        (pss_cons (ps_set (i := 6) nd rfl (.inl rfl) (pe_ix ix_list (pv 4) (pv 5) (fun _ _ => rfl)))
        (pss_cons (ps_aug (i := 5) nd rfl (.inl rfl) pe_int ip_add)
        (pss_one (ps_for PassesOwn.never rfl (pi_list (pe_def DF hr4 pass0 (pa_cons (pv 0) (pa_cons (pv 6) pa_nil)))) (pg_name (i := 7) nd rfl (.inl rfl))
          (pss_cons (ps_if (pt_cmp (pc_din hu (pv 7) (pv 2)))
            (pss_one ps_continue)
            pss_nil)
          (pss_cons (ps_dput hu (pv 2) (pv 7) (pv 6) rfl)
          (pss_cons (ps_if (pt_cmpR op_gt (pe_mth DR PC.cl hr2 pass0 (pv 0) (pa_cons (pv 7) pa_nil)) pe_int (nomark _))
            (pss_one (ps_ret (pe_def DC hr1 pass0 (pa_cons (pv 7) (pa_cons (pv 2) (pa_cons (pv 3) pa_nil))))))
            pss_nil)
          (pss_one (ps_for PassesOwn.never rfl (pi_tup (pe_getOwn DG PC.fnGet hr3 pass0 (pv 0) (pv 7))) (pg_name (i := 8) nd rfl (.inl rfl))
            (pss_one (ps_if (pt_cmp (pc_dnotin hu (pv 8) (pv 3)))
              (pss_cons (ps_dput hu (pv 3) (pv 8) (pv 7) rfl)
              (pss_one (ps_expr (pe_bm PySem.F.plainAttrs_list PySem.F.slot_list_append PySem.F.type_list_append mt_append (pv 4) (pa_cons (pv 8) pa_nil)))))
              pss_nil))))))))))))
      (pss_one (ps_ret pe_non))))))))), ?_⟩
    obtain ⟨dx, eO⟩ := hP.ob
    refine ⟨_, rfl, O, dx, _, rfl, eO, pf_m (by simp), _, rfl, O, Tt, S, w, cas, cars, has, rows, z, rfl, hP, hZ.rl, ?_, ke⟩
    rintro n0 c0 rfl hc0 H1 f1
    obtain ⟨k1, k2⟩ := kq n0 c0 rfl hc0
    refine ⟨rfl, _, rfl, ite2 (fun h => ?_) (fun h => ?_)⟩
    · have h' : V.int ((c0.2.2 : Int) - (gotN rows n0 : Int)) = V.int 0 := of_decide_eq_true h
      have h'' := V.int.inj h'
      exact k1 (.inl (by omega)) H1 f1
    · have hne : gotN rows n0 ≠ c0.2.2 := fun q => h (decide_eq_true (by rw [q]; show V.int ((c0.2.2 : Int) - (c0.2.2 : Int)) = V.int 0; rw [Int.sub_self]))
      have k2 := fun H' L as ps => k2 H' L as ps hne
      intro tA htA
      refine fun gA hgA => ?_
      have ntg : tA ≠ gA := fun e => by rw [← e, upd_same] at hgA; cases hgA
      refine ⟨_, rfl, upd_same, [(Sum.inl (n0 : Int), .non)], rfl, (by show 1 ≤ 15; decide), ?_⟩
      refine ⟨_, rfl, (by show 1 ≤ sizeLine; decide), fun qA hqA => ?_⟩
      have ntq : tA ≠ qA := fun e => by
        rw [← e, upd_ne ntg, upd_ne ntg, upd_same] at hqA
        cases hqA
      have ngq : gA ≠ qA := fun e => by
        rw [← e, upd_same] at hqA
        cases hqA
      have hgA1 : H1 gA = none := by rw [upd_ne ntg.symm] at hgA; exact hgA
      have hqA1 : H1 qA = none := by rw [upd_ne ngq.symm, upd_ne ngq.symm, upd_ne ntq.symm] at hqA; exact hqA
      have NW : FNew H tA gA qA := ⟨f1.free htA, f1.free hgA1, f1.free hqA1, ntg, ntq, ngq⟩
      have hk0 : n0 < cars.length := lt_of_ix hc0
      have S0 : FS H (upd (upd (upd (upd H1 tA (.dK [])) gA (.dK [])) gA (.dK (mergeK [] [(Sum.inl (n0 : Int), .non)]))) qA (.lst [iv n0])) tA gA qA [] [(n0, none)] := by
        refine ⟨(((f1.put NW.t).put NW.g).put NW.g).put NW.q, ?_, ?_, upd_same⟩
        · rw [upd_ne ntq, upd_ne ntg, upd_ne ntg, upd_same]
          rfl
        · rw [upd_ne ngq, upd_same]
          rfl
      -- while at < len(queue)
      refine ⟨fun mm σ H' => ∃ (tk : List (Nat × Nat)) (gv : List (Nat × Option Nat)) (m : Nat) (v6 v7 v8 : Option V), σ = [some (.ref O), some (iv n0), some (.ref tA), some (.ref gA), some (.ref qA), some (iv m), v6, v7, v8] ∧ BI cars rows n0 tk gv m ∧ BEnd w cars rows tk gv m ∧ (tk.map (·.1)).Nodup ∧ FS H H' tA gA qA tk gv ∧ mm + m = cars.length ∧ m ≤ cars.length,
        ⟨cars.length, [], [(n0, none)], 0, none, none, none, rfl, BI.start hk0, BEnd.start, List.nodup_nil, S0, rfl, Nat.zero_le _⟩, fun mm σ H' hW => ?_⟩
      obtain ⟨tk, gv, m, v6, v7, v8, rfl, B, En, hnd, fs, hmm, hmc⟩ := hW
      have hgl := B.len
      refine ⟨_, rfl, _, rfl, qA, _, rfl, .inl (SqL.of fs.q), _, _, rfl, rfl, _, rfl, ite2 (fun hlt => ?_) (fun hge => ?_)⟩
      · have hm : m < gv.length := by
          have q := of_decide_eq_true hlt
          rw [List.length_map, List.length_map] at q
          omega
        obtain ⟨t, ht⟩ : ∃ t, (gv.map (·.1))[m]? = some t := ⟨_, List.getElem?_eq_getElem (by rw [List.length_map]; exact hm)⟩
        have htl : t < cars.length := B.lt t (List.mem_of_getElem? ht)
        have hc : cars[t]? = some cars[t] := List.getElem?_eq_getElem htl
        generalize hcc : cars[t] = c at hc
        have hcl : c.1 + c.2.1 ≤ rows.length := hZ.win c (List.mem_of_getElem? hc)
        refine ⟨fun σ' H'' => ∃ mm', mm' < mm ∧ ∃ (tk : List (Nat × Nat)) (gv : List (Nat × Option Nat)) (m : Nat) (v6 v7 v8 : Option V), σ' = [some (.ref O), some (iv n0), some (.ref tA), some (.ref gA), some (.ref qA), some (iv m), v6, v7, v8] ∧ BI cars rows n0 tk gv m ∧ BEnd w cars rows tk gv m ∧ (tk.map (·.1)).Nodup ∧ FS H H'' tA gA qA tk gv ∧ mm' + m = cars.length ∧ m ≤ cars.length, fun σ' H'' z => z, ?_⟩
        refine ⟨_, rfl, _, rfl, qA, _, _, _, rfl, rfl, SqL.of fs.q, atI_nat (map_ix ht), ?_⟩
        refine ⟨_, rfl, _, _, rfl, rfl, ?_⟩
        have hP' : PlanAt C H' O Tt S w cas cars has rows := hP.frm fs.f (by simp)
        refine ⟨_, rfl, _, rfl, O, Tt, S, w, cas, cars, has, rows, t, c, rfl, hP', hZ.rl, hc, hcl, fun H2 L f2 hL eL => ?_⟩
        refine ⟨L, rfl, ⟨_, SqL.of eL⟩, for_list (K := K) (a := L) (xs := (freeL rows c t).map iv) (fun i σ H3 => ∃ (tk : List (Nat × Nat)) (gv : List (Nat × Option Nat)) (v7 v8 : Option V), σ = [some (.ref O), some (iv n0), some (.ref tA), some (.ref gA), some (.ref qA), some (iv (m + 1)), some (iv t), v7, v8] ∧
          BI cars rows n0 tk gv (m + 1) ∧ BM w cars rows tk gv m ((freeL rows c t).take i) (fun _ _ => False) ∧ (tk.map (·.1)).Nodup ∧ FS H H3 tA gA qA tk gv ∧ H3 L = some (.lst ((freeL rows c t).map iv)) ∧ (gv.map (·.1))[m]? = some t)
          ⟨tk, gv, v7, v8, rfl, B.more (Nat.le_succ _), BM.of En, hnd, fs.frm f2, eL, ht⟩ (fun i σ H3 _ hh => ?_) ?_ ?_⟩
        · obtain ⟨_, _, _, _, _, _, _, _, _, e, _⟩ := hh
          exact SqL.of e
        · rintro i y σ H3 hi ⟨tk3, gv3, v7', v8', rfl, B3, M3, hnd3, fs3, eL3, ht3⟩
          obtain ⟨h, hh, rfl⟩ := ix_map hi
          have hfree := (mem_freeL (rows := rows) (c := c) (k := t)).mp (List.mem_of_getElem? hh)
          have stk := take_ix hh
          have hhl : h < rows.length := by omega
          have nLt : L ≠ tA := ne_of eL3 fs3.t (by intro q; cases q)
          have nLg : L ≠ gA := ne_of eL3 fs3.g (by intro q; cases q)
          have hLH : H L = none := fs.f.free hL
          have nLq : L ≠ qA := fun e => by rw [e] at hL; have q := fs.q; rw [hL] at q; cases q
          have htkl : tk3.length ≤ 1000 := Nat.le_trans (tk_len B3 hnd3) hZ.rl
          -- if hour in takers: continue
          refine ⟨_, rfl, _, rfl, tA, _, rfl, dget_tk fs3.t h, _, rfl, ?_⟩
          cases hlk : lk tk3 h with
          | some u =>
            refine iteT ?_
            refine ⟨tk3, gv3, _, _, rfl, B3, ?_, hnd3, fs3, eL3, ht3⟩
            rw [stk]
            exact M3.seen (by rw [hlk]; rfl)
          | none =>
            refine iteF ?_
            -- takers[hour] = taker
            refine ⟨_, rfl, _, rfl, _, rfl, tA, _, rfl, dput_tk (t := t) fs3.t hlk htkl, ?_⟩
            have B4 := B3.hour ht3 hc hfree.1 hfree.2 hhl hlk
            have fs4 := fs3.putT (h := h) (t := t) NW
            have hnd4 := tk_nd (t := t) hnd3 hlk
            have eL4 : (upd H3 tA (.dK (tkD (tk3 ++ [(h, t)])))) L = some (.lst ((freeL rows c t).map iv)) := by rw [upd_ne nLt]; exact eL3
            have hP4 : PlanAt C (upd H3 tA (.dK (tkD (tk3 ++ [(h, t)])))) O Tt S w cas cars has rows := hP.frm fs4.f (by simp)
            have hr' : rows[h]? = some rows[h] := List.getElem?_eq_getElem hhl
            generalize hrr : rows[h] = r at hr'
            have hra := rowAt_of hr'
            obtain ⟨dx4, eO4⟩ := hP4.ob
            -- if plan.room(hour) > 0
            refine ⟨_, rfl, O, dx4, _, rfl, eO4, pf_m (by simp), _, rfl, O, Tt, S, w, cas, cars, has, rows, h, r, rfl, hP4, hr', ?_⟩
            refine ⟨_, _, rfl, rfl, _, rfl, ite2 (fun hroom => ?_) (fun hfull => ?_)⟩
            · have hroom' : (0 : Int) < (w : Int) - (r.length : Int) := of_decide_eq_true hroom
              refine ⟨_, rfl, _, rfl, _, rfl, tA, gA, w, cars, rows, n0, h, t, m + 1, _, gv3, rfl, fs4.t, fs4.g, B4, hZ.cl, (by rw [lk_snoc hlk, if_pos rfl]), (by rw [hra]; omega), fun H' L' as ps hch f5 hL' eL' hO => ?_⟩
              exact k2 H' L' as ps hch (fs4.f.trans f5) (fs4.f.free hL') eL' hO
            · have hfull' : ¬ (0 : Int) < (w : Int) - (r.length : Int) := fun q => hfull (decide_eq_true q)
              have M4 := M3.hour (h := h) (t := t) hlk (by rw [hra]; omega)
              rw [← stk] at M4
              -- for other in plan[hour]
              refine ⟨_, rfl, _, rfl, O, dx4, _, rfl, eO4, O, Tt, S, w, cas, cars, has, rows, h, r, rfl, hP4, hr', fun ra era => ?_⟩
              refine ⟨ra, rfl, ⟨_, SqT.of era⟩, for_tup (K := K) (a := ra) (xs := r.map iv) (fun j σ H5 => ∃ (gv : List (Nat × Option Nat)) (v8 : Option V), σ = [some (.ref O), some (iv n0), some (.ref tA), some (.ref gA), some (.ref qA), some (iv (m + 1)), some (iv t), some (iv h), v8] ∧
                BI cars rows n0 (tk3 ++ [(h, t)]) gv (m + 1) ∧ BM w cars rows (tk3 ++ [(h, t)]) gv m ((freeL rows c t).take (i + 1)) (fun a b => a = h ∧ b ∈ r.drop j) ∧ FS H H5 tA gA qA (tk3 ++ [(h, t)]) gv ∧ H5 L = some (.lst ((freeL rows c t).map iv)) ∧ H5 ra = some (tupO r) ∧ (gv.map (·.1))[m]? = some t)
                ⟨gv3, v8', rfl, B4, M4.weak (fun a b q => ⟨q.1, by rw [List.drop_zero, ← hra]; exact q.2⟩), fs4, eL4, era, ht3⟩ (fun j σ H5 _ hh => ?_) ?_ ?_⟩
              · obtain ⟨_, _, _, _, _, _, _, e, _⟩ := hh
                exact SqT.of e
              · rintro j y σ H5 hj ⟨gv5, v8'', rfl, B5, M5, fs5, eL5, era5, ht5⟩
                obtain ⟨k, hk, rfl⟩ := ix_map hj
                have hkr : k ∈ r := List.mem_of_getElem? hk
                have hkl : k < cars.length := hZ.mem r (List.mem_of_getElem? hr') k hkr
                have dj : r.drop j = k :: r.drop (j + 1) := by
                  obtain ⟨h1, h2⟩ := List.getElem?_eq_some_iff.mp hk
                  rw [List.drop_eq_getElem_cons h1, h2]
                have wk : ∀ a b, ((a = h ∧ b ∈ r.drop j) ∧ b ≠ k) → (a = h ∧ b ∈ r.drop (j + 1)) := fun a b q => by
                  refine ⟨q.1.1, ?_⟩
                  have z := q.1.2
                  rw [dj] at z
                  rcases List.mem_cons.mp z with z | z
                  · exact absurd z q.2
                  · exact z
                have hm5 : m < gv5.length := by
                  have := (List.getElem?_eq_some_iff.mp ht5).1
                  rwa [List.length_map] at this
                refine ⟨_, rfl, _, rfl, gA, _, rfl, dget_gv fs5.g k, _, rfl, ?_⟩
                cases hlg : lk gv5 k with
                | some o =>
                  refine iteF ?_
                  exact ⟨gv5, _, rfl, B5, (M5.met (lk_mem hlg)).weak wk, fs5, eL5, era5, ht5⟩
                | none =>
                  refine iteT ?_
                  have hnk : k ∉ gv5.map (·.1) := fun q => by
                    obtain ⟨⟨x, u⟩, hp, hx⟩ := List.mem_map.mp q
                    obtain ⟨i2, hi2, e2⟩ := List.getElem_of_mem hp
                    have hx : x = k := hx
                    subst hx
                    have z := lk_at B5.nd (by rw [List.getElem?_eq_getElem hi2, e2])
                    rw [hlg] at z
                    cases z
                  have hgl5 := B5.len
                  have hcl5 := hZ.cl
                  refine ⟨_, rfl, _, rfl, _, rfl, gA, _, rfl, dput_gv (h := h) fs5.g hlg (by omega), ?_⟩
                  have eq5 : (upd H5 gA (.dK (gvD (gv5 ++ [(k, some h)])))) qA = some (.lst ((gv5.map (·.1)).map iv)) := by rw [upd_ne NW.gq.symm]; exact fs5.q
                  refine ⟨_, rfl, .inl ⟨rfl, _, SqL.of eq5⟩, _, rfl, qA, _, _, rfl, rfl, eq5, small1000 (by rw [List.length_map, List.length_map]; omega), ?_⟩
                  have nrg : ra ≠ gA := ne_of era5 fs5.g (by intro q; cases q)
                  have nrq : ra ≠ qA := ne_of era5 fs5.q (by intro q; cases q)
                  refine ⟨gv5 ++ [(k, some h)], _, rfl, B5.car (by rw [lk_snoc hlk, if_pos rfl]) (by rw [hra]; exact hkr) hkl hnk, (M5.car (by omega)).weak wk, fs5.putG NW, ?_, ?_, ?_⟩
                  · rw [upd_ne nLq, upd_ne nLg]; exact eL5
                  · rw [upd_ne nrq, upd_ne nrg]; exact era5
                  · rw [List.map_append, List.getElem?_append_left (by rw [List.length_map]; exact hm5)]
                    exact ht5
              · rintro σ H5 ⟨gv5, v8'', rfl, B5, M5, fs5, eL5, era5, ht5⟩
                refine ⟨tk3 ++ [(h, t)], gv5, _, _, rfl, B5, M5.weak (fun a b q => ?_), hnd4, fs5, eL5, ht5⟩
                have z := q.2
                rw [List.length_map, List.drop_length] at z
                cases z
        · rintro σ H3 ⟨tk3, gv3, v7', v8', rfl, B3, M3, hnd3, fs3, eL3, ht3⟩
          rw [List.length_map, List.take_length] at M3
          exact ⟨mm - 1, by omega, tk3, gv3, m + 1, _, _, _, rfl, B3, M3.turn ht3 hc, hnd3, fs3, by omega, by omega⟩
      · have hge' : gv.length ≤ m := by
          have q : ¬ (m : Int) < (((gv.map (·.1)).map iv).length : Nat) := fun q => hge (decide_eq_true q)
          rw [List.length_map, List.length_map] at q
          omega
        exact k1 (.inr (En.done B hge')) H' fs.f
end
end Oc
-- X2
set_option Elab.async false
set_option linter.all false
set_option maxRecDepth 100000
set_option maxHeartbeats 4000000
/-! list(plan): a class with __iter__ that gives a list's iterator, and with __len__. -/
namespace Oc
open PySem PySem.Spec PyProof.Rows L2
section
variable {X : Cx} {pins : List (Addr × Obj)} {σ : L2.St} {H : Hp} {s : Shared} {it l q a C : Addr} {i : Nat} {xs : List V} {A : Around}
/-- one step of a list's iterator -/
theorem it_next {E : Value → Shared → Prop} {Q : Option Value → Shared → Prop} (hh : A.handled = none) (I : Inv X pins σ H s) (ei : H it = some (ItO l it i)) (el : SqL X.K H l xs)
    (h1 : ∀ v u s', xs[i]? = some v → RelV v u → Inv X pins σ (upd H it (ItO l it (i + 1))) s' → Q (some u) s')
    (h2 : ∀ s', xs[i]? = none → Inv X pins σ (upd H it (ItE it i)) s' → Q none s') : wpAny (model X.prog X.w) A (pyNext (.ref it)) Q E s := by
  obtain ⟨its, rv, pl, hz⟩ := I.list el
  have hg := itO_get I ei
  have hT : s.TypeIs (.ref it) "list_iterator" := ⟨_, hg, rfl⟩
  have mu : Mut (H it) := by rw [ei]; exact True.intro
  unfold pyNext
  cases hx : xs[i]? with
  | some v =>
    obtain ⟨w', hw, rw'⟩ := rv.get hx
    refine wpAny_bind (wpAny_attempt (wpAny_callSpecial?_slot (name := Str.ofString "__next__") hT slot_listiter_next (wpAny_call_entry slot_listiter_next hT entry_listiter_next ?_ (args_listiter_next _))))
    refine wpAny_mono (GNX.next_item (Q := fun u s' => u = w' ∧ Inv X pins σ (upd H it (ItO l it (i + 1))) s') (E := fun _ _ => False) hg pl.isList (by rw [List.getElem?_toArray]; exact hw) fun h' e' sb => ⟨rfl, I.write (x := it) (e := it) (t' := s.toks) mu (.inl rfl) (fun b o nb z => (sb.2 b nb).trans z) ⟨_, e'⟩ (itO_ok e')⟩) (fun fin s' hf => ?_) fun _ _ z => z.elim
    obtain ⟨u, rfl, rfl, I'⟩ := hf
    exact ⟨_, rfl, wpAny_pure (h1 v _ s' hx rw' I')⟩
  | none =>
    refine wpAny_bind (wpAny_attempt (wpAny_callSpecial?_slot (name := Str.ofString "__next__") hT slot_listiter_next (wpAny_call_entry slot_listiter_next hT entry_listiter_next ?_ (args_listiter_next _))))
    refine wpAny_mono (GNX.next_end (Q := fun _ _ => False) (E := fun e s' => s'.TypeIs e "StopIteration" ∧ Inv X pins σ (upd H it (ItE it i)) s') hh hg pl.isList (by rw [List.getElem?_toArray]; exact rv.none_of hx) fun h1 h' e vs e1 sb k ne he hv => ⟨⟨_, he, rfl⟩, ?_⟩) (fun fin s' hf => ?_) fun e s' hf => ?_
    · refine I.write (x := it) (e := it) (t' := s.toks) mu (.inl rfl) (fun b o nb z => k _ _ ((sb.2 b nb).trans z)) ⟨_, k _ _ e1⟩ (itE_ok (k _ _ e1))
    · obtain ⟨v, _, z⟩ := hf
      exact z.elim
    · obtain ⟨hT', I'⟩ := hf
      refine wpAny_bind (wpAny_isInstance (T := "StopIteration") (b := true) hT' isSubtype_stop ?_)
      exact wpAny_pure (h2 s' hx I')
/-- the walk -/
theorem it_loop {Rs : Result → Shared → Prop} (hh : A.handled = none) (hz : xs.length ≤ 1000) (nql : q ≠ l) (nqi : q ≠ it) (nil' : it ≠ l) (hdone : ∀ H' s', Inv X pins σ H' s' → Frm [q] H (H' ) → H' q = some (.lst xs) → Rs (.ok (.ret .none)) s') (hi0 : H it = none) :
    ∀ (m i : Nat) (H1 : Hp) (s : Shared), m + i = xs.length → Inv X pins σ H1 s → Frm [q] H H1 → H1 l = some (.lst xs) → H1 it = some (ItO l it i) → H1 q = some (.lst (xs.take i)) → codeAny (model X.prog X.w) A (.builtin "list.extend.loop" ⟨[.ref q, .ref it, .none], []⟩) Rs s := by
  intro m
  induction m with
  | zero =>
    intro i H1 s hm I f el1 ei eq
    refine codeAny_builtin PySem.F.entry_extend_loop ?_
    rw [Around.under_plainId PySem.F.plain_extend_loop _]
    refine wpAny_bind (it_next (by exact hh) I ei (SqL.of el1) (fun v u s' hx _ _ => ?_) fun s' _ I' => ?_)
    · rw [List.getElem?_eq_none (by omega)] at hx
      cases hx
    · refine wpAny_pure (hdone _ s' I' (f.put hi0) ?_)
      rw [upd_ne nqi, eq, show i = xs.length by omega, List.take_length]
  | succ m ih =>
    intro i H1 s hm I f el1 ei eq
    refine codeAny_builtin PySem.F.entry_extend_loop ?_
    rw [Around.under_plainId PySem.F.plain_extend_loop _]
    refine wpAny_bind (it_next (by exact hh) I ei (SqL.of el1) (fun v u s' hx rv I' => ?_) fun s' hx _ => ?_)
    · have eq' : (upd H1 it (ItO l it (i + 1))) q = some (.lst (xs.take i)) := by rw [upd_ne nqi]; exact eq
      obtain ⟨z, its, k, r2, hl, e⟩ := I'.lstM eq'
      have hli : (xs.take i).length ≤ i := by rw [List.length_take]; omega
      have hsz : 1000 ≤ sizeLine := by decide
      refine wpAny_bind (m := updateSeq q (·.push u)) (wpAny_updateSeq e rfl (wpAny_pure ⟨plainId_quiet PySem.F.plain_extend_loop _, ?_⟩) (by rw [List.size_toArray]; omega) (by show (its.toArray.push u).size ≤ sizeLine + 1; rw [Array.size_push, List.size_toArray]; omega))
      have I2 := I'.lset (f := (·.push u)) (ys := xs.take i ++ [v]) (its' := its ++ [u]) (t' := s'.toks) eq' e (by simp) (r2.append (.cons rv .nil)) (by rw [List.length_append, List.length_singleton]; omega)
      refine ih (i + 1) _ _ (by omega) I2 ((f.put hi0).trans (Frm.set (List.mem_singleton.mpr rfl) eq')) ?_ ?_ ?_
      · rw [upd_ne nql.symm, upd_ne nil'.symm]
        exact el1
      · rw [upd_ne nqi.symm, upd_same]
      · rw [upd_same, take_ix hx]
    · have := List.getElem?_eq_none_iff.mp hx
      omega
/-- a def that can't raise runs, somewhere below the running body, whatever is caught -/
theorem run_below0 {k : Nat} {ps : List Str} {sp : Sp} {f : Addr} {fd : FuncData} {A1 : Around} {Ex : Value → Shared → Prop} {Q : VK} {E : XK} {us : List Value} {vs : List V} (F : FnOk X.prog X.w X.K X.mg X.base CX0 k f fd ps sp) (sb : Sub X k A1)
    (hb : Binds X.K fd ps []) (I : Inv X pins σ H s) (r : Vals vs us) (h : sp vs H Q E) : wpAny (model X.prog X.w) A1 (call (.ref f) us) (EP X pins σ Q) Ex s := by
  have e := I.env0
  have hl := F.len _ _ _ _ h
  have bt := hb s us I.kIn (by rw [List.append_nil, ← r.length]; exact hl)
  rw [List.append_nil] at bt
  refine wpAny_call (codeAny_mono (F.run A1 X.stack s H ⟨us, []⟩ us vs Q E sb.room ⟨sb.fr.trans e.frames, e.mod, e.bs, e.bsz, e.funs, e.frf, e.hok, e.bare⟩ bt r h) fun res s' hq => ?_)
  cases res with
  | error er => exact False.elim hq
  | ok fl => cases fl with
    | ret u => exact I.after hq
    | _ => exact False.elim hq
/-- list.extend of an own object -/
theorem own_extend2 {Rs : Result → Shared → Prop} {O T S : Addr} {wd : Nat} {cas : List Addr} {cars : List Car} {has : List Addr} {rows : List (List Nat)} {A1 : Around} {kI kL : Nat} (hA : A1.handled = none) (sbI : Sub X kI A1.in1) (sbL : Sub X (kL + 1) A1.in1)
    (DI : MethAt X.prog X.w X.K X.mg X.base CX0 kI C "__iter__" ["self"] (spIter C)) (DL : MethAt X.prog X.w X.K X.mg X.base CX0 kL C "__len__" ["self"] (spLen C)) (I : Inv X pins σ H s) (hP : PlanAt C H O T S wd cas cars has rows) (hz : rows.length ≤ 1000) (hq : H q = some (.lst []))
    (nqS : q ≠ S) (hdone : ∀ H' s', Inv X pins σ H' s' → Frm [q] H H' → H' q = some (.lst (refs has)) → Rs (.ok (.ret .none)) s') :
    wpAny (model X.prog X.w) A1.in1 (Builtin.List.listExtendWith (.ref q) (.ref O) .none)
      (fun fin s' => match fin with | .done f => Rs (.ok f) s' | .again c' => c'.quiet = true ∧ codeAny (model X.prog X.w) A1 c' Rs s') (fun e s' => Rs (.error e) s') s := by
  obtain ⟨dx, hO⟩ := hP.ob
  have hne : q ≠ O := ne_of hq hO (fun z => nomatch z)
  obtain ⟨fi, fdI, FI, mI, bI⟩ := DI
  obtain ⟨fl, fdL, FL, mL, bL⟩ := DL
  obtain ⟨mA, J, _⟩ := ins_get I.hok hO
  obtain ⟨od, J, _⟩ := J.look
  obtain ⟨m0, hF⟩ := I.fr
  have r1 : Vals [V.ref O] [Value.ref O] := .cons (show RelV (.ref O) (.ref O) from rfl) .nil
  unfold Builtin.List.listExtendWith
  refine wpAny_bind (J.type.here ?_)
  have n1 : Builtin.List.listSameRef (.ref q) (.ref O) = false := by simp [Builtin.List.listSameRef, hne]
  have n2 : (Value.ref C == Value.type "list") = false := rfl
  have n3 : (Value.ref C == Value.type "tuple") = false := rfl
  simp only [n1, n2, n3, Bool.or_false, Bool.false_eq_true, if_false]
  refine wpAny_bind (PySem.W.owit_iter hF I.ok.mod.kin J mI.at_ mI.fn (wpAny_mono (run_below0 (Q := fun v H' => ∃ it, v = .ref it ∧ H it = none ∧ H' = upd H it (ItO S it 0)) (E := L2.E0) FI sbI bI I r1 ⟨O, T, S, wd, cas, cars, has, rows, rfl, hP, fun it hit => ⟨it, rfl, hit, rfl⟩⟩) (fun v s' hv => ?_) fun _ _ z => z))
  obtain ⟨_, H', I', rv, it, rfl, hit, rfl⟩ := hv
  cases (show v = Value.ref it from rv)
  have hg := itO_get I' upd_same
  have hT : s'.TypeIs (.ref it) "list_iterator" := ⟨_, hg, rfl⟩
  show wpAny _ _ (specialOf (.ref it) "__next__") _ _ _
  refine wpAny_specialOf hT slot_listiter_next.lookup ?_
  -- the hint
  have fr1 : Frm [] H (upd H it (ItO S it 0)) := Frm.new hit
  have hO1 := fr1.ins hO
  obtain ⟨mA1, J1, _⟩ := ins_get I'.hok hO1
  obtain ⟨od1, J1, _⟩ := J1.look
  obtain ⟨m1, hF1⟩ := I'.fr
  have nqi : q ≠ it := fun e => by rw [e, hit] at hq; cases hq
  have nSi : it ≠ S := fun e => by rw [e] at hit; have z := hP.hs; rw [hit] at z; cases z
  have P1 := hP.frm fr1 (by simp)
  refine wpAny_bind (wpAny_holding ?_)
  unfold Builtin.List.listLengthHint
  refine wpAny_bind (wpAny_bind (J1.type.here ((PySem.W.looks_findIn I'.kIn mL.at_).here ?_)))
  refine PySem.W.KFB.if_not rfl ?_
  refine PySem.W.KFB.if_so rfl ?_
  refine wpAny_bind (wpAny_rule ?_)
  refine wpAny_bind (wpAny_attempt ?_)
  have hlen : ∀ (Q0 : Value → Shared → Prop) (Ex : Value → Shared → Prop), (∀ t s2, Inv X pins σ (upd H it (ItO S it 0)) s2 → Q0 (.int (rows.length : Nat) t) s2) → wpAny (model X.prog X.w) A1.in1 (call (.builtin "len") [.ref O]) Q0 Ex s' := fun Q0 Ex hq0 => by
    refine PySem.W.len_K hF1 I'.ok.mod.kin J1 mL.at_ mL.fn (wpAny_mono (run_below0 (A1 := A1.in1.in1) (Q := fun v H' => v = iv rows.length ∧ H' = upd H it (ItO S it 0)) (E := L2.E0) FL sbL.in1 bL I' r1 ⟨O, T, S, wd, cas, cars, has, rows, rfl, P1, rfl, rfl⟩) (fun v s2 hv => ?_) fun _ _ z => z)
    obtain ⟨_, H2, I2, rv2, rfl, rfl⟩ := hv
    obtain ⟨t, rfl⟩ := rv2
    have hz0 : (rows.length : Int) ≤ 1000 := by omega
    exact ⟨⟨by omega, by omega⟩, hq0 _ _ (I2.tok _)⟩
  refine hlen _ _ fun t s2 I2 => ?_
  refine wpAny_bind (m := asInt? (.int (rows.length : Nat) t)) (wpAny_pure ?_)
  refine PySem.W.KFB.if_not ?_ ?_
  · have z : (1000 : Nat) ≤ sizeLine := by decide
    exact notLongL (by omega)
  refine wpAny_pure ?_
  have hq2 : upd H it (ItO S it 0) q = some (.lst []) := by rw [upd_ne nqi]; exact hq
  have fin : ∀ s3, Inv X pins σ (upd H it (ItO S it 0)) s3 → codeAny (model X.prog X.w) A1 (.builtin "list.extend.loop" ⟨[.ref q, .ref it, .none], []⟩) Rs s3 := fun s3 I3 => by
    refine it_loop (xs := refs has) (l := S) (H := H) hA (by rw [hP.hl]; exact hz) nqS nqi nSi (fun H' s' I' f e => hdone H' s' I' f e) hit has.length 0 _ s3 (by rw [List.length_map]; rfl) I3 fr1.nil ?_ upd_same ?_
    · rw [upd_ne nSi.symm]; exact hP.hs
    · exact hq2
  refine wpAny_ite_split (fun _ => ?_) (fun _ => wpAny_pure ⟨plainId_quiet PySem.F.plain_extend_loop _, fin _ I2⟩)
  obtain ⟨z, its, k, r3, hl3, e3⟩ := I2.lstM hq2
  cases r3
  refine wpAny_bind (wpAny_rule (wpAny_bind ?_))
  show wpAny _ _ (updateSeq q (·.push Value.none) >>= fun _ => updateSeq q (fun x => x.pop)) _ _ _
  refine wpAny_bind (wpAny_updateSeq e3 rfl ?_)
  have I3 := I2.lset (its' := [Value.none]) (ys := [.non]) (f := (·.push Value.none)) (t' := s2.toks) hq2 e3 (by simp) (.cons rfl .nil) (by show 1 ≤ sizeLine; decide)
  obtain ⟨z4, its4, k4, r4, hl4, e4⟩ := I3.lstM upd_same
  obtain ⟨u4, rfl, ru4⟩ := r4.one
  refine wpAny_updateSeq e4 rfl (wpAny_pure ⟨plainId_quiet PySem.F.plain_extend_loop _, fin _ ?_⟩) (by show 1 ≤ sizeLine; decide) (by show 0 ≤ sizeLine + 1; exact Nat.zero_le _)
  have I4 := I3.lset (ys := []) (its := [u4]) (its' := []) (f := fun x => x.pop) (t' := s2.toks) upd_same e4 (by rfl) .nil (Nat.zero_le _)
  rw [upd_upd, show upd (upd H it (ItO S it 0)) q (.lst []) = upd H it (ItO S it 0) from funext fun b => by
    by_cases hb : b = q
    · subst hb; rw [upd_same, hq2]
    · rw [upd_ne hb]] at I4
  exact I4
/-- list(plan) -/
def rListPlan (C : Addr) : List V → Hp → VK → Prop := fun xs H Q => ∃ (O T S : Addr) (w : Nat) (cas : List Addr) (cars : List Car) (has : List Addr) (rows : List (List Nat)), xs = [.ref O] ∧ PlanAt C H O T S w cas cars has rows ∧ rows.length ≤ 1000 ∧
  ∀ q H', Frm [] H H' → H q = none → H' q = some (.lst (refs has)) → Q (.ref q) H'
theorem call_listPlan {kI kL : Nat} (DI : MethAt X.prog X.w X.K X.mg X.base CX0 kI C "__iter__" ["self"] (spIter C)) (DL : MethAt X.prog X.w X.K X.mg X.base CX0 kL C "__len__" ["self"] (spLen C)) (hc : X.calm = true) (hrI : Room (kI + 2) X.A) (hrL : Room (kL + 3) X.A) : CallR X (.type "list") (rListPlan C) := by
  intro pins s σ H xs us Q I rv h
  obtain ⟨O, T, S, w, cas, cars, has, rows, rfl, hP, hz, k⟩ := h
  obtain ⟨u, rfl, ru⟩ := rv.one
  cases ru
  refine callType_codes (Q₁ := fun obj s₁ => obj = .ref s.heap.objs.size ∧ s₁ = { s with heap := s.heap.push { cls := .type "list", data := .seq #[] } }) PySem.F.called_list (PySem.F.typeCall_list_1 _) PySem.F.entry_list_init (code_list_new _ ⟨rfl, rfl⟩) fun obj s₁ h₁ => ?_
  obtain ⟨rfl, rfl⟩ := h₁
  have hS : (s.heap.push { cls := .type "list", data := .seq #[] }).get? s.heap.objs.size = some { cls := .type "list", data := .seq #[] } := Heap.get?_push_size _ rfl
  refine ⟨⟨_, hS, rfl⟩, PySem.F.args_list_init_2 _ _, ?_⟩
  have fr : H s.heap.objs.size = none := I.hok.fresh (Nat.le_refl _)
  generalize hq : s.heap.objs.size = q at *
  have I1 : Inv X pins σ (upd H q (.lst [])) { s with heap := s.heap.push { cls := .type "list", data := .seq #[] } } := by subst hq; exact I.lnew (its := []) (t' := s.toks) .nil (Nat.zero_le _)
  show wpAny _ _ (do let old ← Builtin.List.listItems (.ref q); Builtin.List.listUpdate (.ref q) (fun _ => #[]); letGo old.toList.reverse; Builtin.List.listExtendWith (.ref q) (.ref O) .none) _ _ _
  unfold Builtin.List.listItems
  refine wpAny_bind (wpAny_bind (wpAny_seqItems hS rfl (wpAny_pure ?_)))
  show wpAny _ _ (updateSeq q (fun _ => #[]) >>= fun _ => letGo (#[] : Array Value).toList.reverse >>= fun _ => Builtin.List.listExtendWith (.ref q) (.ref O) .none) _ _ _
  refine wpAny_bind (wpAny_updateSeq hS rfl (wpAny_bind (wpAny_letGo ?_)))
  have I2 := I1.lset (its := []) (its' := []) (ys := []) (f := fun _ => #[]) (t' := s.toks) upd_same hS rfl .nil (Nat.zero_le _)
  rw [upd_upd] at I2
  have fN : Frm [] H (upd H q (.lst [])) := Frm.new fr
  have hd := I.ok.hd hc
  refine own_extend2 (A1 := X.A.in1) (Rs := wants (fun r s₂ => r = .none ∧ EP X pins σ Q (.ref q) s₂) X.xe) hd (⟨hrI, rfl⟩ : Sub X (kI + 2) X.A).in1.in1 (⟨hrL, rfl⟩ : Sub X (kL + 3) X.A).in1.in1 DI DL I2 (hP.frm fN (by simp)) hz upd_same (ne_new hP.hs fr) fun H' s' I' f e => ⟨rfl, .ref q, H', I', rfl, k q H' (fun b o eb => ?_) fr e⟩
  have nbq : b ≠ q := ne_of_none eb fr
  rcases f b o (by rw [upd_ne nbq]; exact eb) with z | ⟨hm, _⟩
  · exact .inl z
  · exact absurd (List.mem_singleton.mp hm) nbq
end
end Oc
-- X3
set_option Elab.async false
set_option linter.all false
set_option maxRecDepth 100000
set_option maxHeartbeats 4000000
/-! Set comprehensions of ints, their length; max(.., default=0) of ints; range(n) as a value, not in it. -/
namespace Oc
open PySem PySem.Spec PyProof.Rows L2
section
variable {X : Cx}
/-- what a new set of ints promises: the block adds whole numbers to the set at D -/
def tScI (w : World) (wi : TI) (g : TG) (tt : TT) (te : TE) (vs : List Nat) : TE := fun σ H Q => wi σ H fun J H1 => ∀ D, H1 D = none → ∃ W : Nat → Nat → Hp → Prop, (∃ m, W 0 m (upd H1 D (SetO w D (fun _ => false) 0))) ∧
  ∀ i m H, W i m H → (J.stop i H ∧ Q (.ref D) H) ∨ (J.go i H ∧ ∃ Nx : Hp → Prop, (∀ H', Nx H' → ∃ m', m' < m ∧ W (i + 1) m' H') ∧ ∀ x H', J.yld i H x H' → g x (wipe σ vs) H' fun σ2 H2 => wipe σ2 vs = wipe σ vs ∧
    tt σ2 H2 fun b H3 => if b = true then te σ2 H3 fun y H4 => rSAdd w (.ref D) [y] H4 (fun _ => Nx) else Nx H3)
theorem sci_core {pins : List (Addr × Obj)} {s0 : Shared} {σ : L2.St} {H0 : Hp} {Q : VK} {elt tg iter : Expr} {ifs : List Expr} {sc : Scope} {own : List (PySem.Str × Nat)} {pos pos' : Pos} {wi : TI} {g : TG} {tt : TT} {te : TE} {use : Option (Value → Sem Unit)} {Qf : Value → Shared → Prop}
    (calm : X.calm = true) (hN : X.N.Nodup) (I0 : Inv X pins σ H0 s0) (hi : PI X tg iter wi) (blk : BlkOk X.N X.env.scope sc own)
    (hg : ∀ s H C cl fp, PG (X.blk s H sc (compEnvC sc cl C X.env) fp) tg g) (ht : ∀ s H C cl fp, PTs (X.blk s H sc (compEnvC sc cl C X.env) fp) ifs tt) (he : ∀ s H C cl fp, PE (X.blk s H sc (compEnvC sc cl C X.env) fp) elt te)
    (fold : ∀ x, foldedSetIterable iter X.env x = pure x) (h : tScI X.w wi g tt te (own.map (·.2)) σ H0 Q)
    (land : ∀ D C s m H, Inv X pins σ H s → Q (.ref D) H → s.heap.Ns C m → FpOk X pins H C → compPost (model X.prog X.w) X.A X.xe use Qf (.ref D) C (.ok .next) s) :
    wpAny (model X.prog X.w) X.A (comprehension (.SetComp elt [⟨tg, iter, ifs, 0⟩] sc pos) sc X.env pos' (newSet (.type "set")) false (eval iter X.env) use) Qf X.xe s0 := by
  have cells : ∀ y ∈ sc.names, y.2 = .free → ∃ c, X.env.cells.lookup y.1 = some c := fun y hy e => (blk.free y hy e).elim (fun k => I0.ok.has _ (.inl k)) fun k => I0.ok.has _ (.inr k)
  refine wpAny_comprehension_free (use := use) rfl fold (closure_ok cells) blk.kind (fun y hy e => by rw [blk.uniq y hy, e]) (thn (hi.run pins s0 σ H0 _ I0 h) fun xv sa ha => thn ha fun itv sb hb => ?_)
  obtain ⟨it, fp, tn, J, Hb, rfl, Ib, T, stb, fb, prom⟩ := hb
  refine PpSet.newSet_ok (newEnv_comp ?_)
  generalize hD : sb.heap.objs.size = D
  have freeD : Hb D = none := Ib.hok.fresh (Nat.le_of_eq hD)
  obtain ⟨W, ⟨m0, start⟩, turn⟩ := prom D freeD
  generalize hO : ({ cls := .type "set", dict := none, data := .set #[] 0 (.fresh 0 0 (!X.w.params.followText "set-order")) } : Obj) = O
  generalize hsc : ({ sb with heap := sb.heap.push O } : Shared) = sd
  have Id : Inv X pins σ (upd Hb D (SetO X.w D (fun _ => false) 0)) sd := by
    subst hsc
    refine Ib.laid (t' := sb.toks) (fun b o e => Heap.get?_push_of_some _ e) (Nat.le_of_eq hD) ?_
    subst hD hO
    exact setO_new (setR_fresh X.w)
  have heapd : sd.heap = sb.heap.push O := by rw [← hsc]
  have below : ∀ b ∈ fp, b < sb.heap.objs.size := fun b hb => let ⟨o, e, _⟩ := T.obj _ _ stb b hb; Heap.lt_size e
  have fd : ∀ b ∈ fp, FpOk X pins (upd Hb D (SetO X.w D (fun _ => false) 0)) b ∧ b < sd.heap.objs.size := fun b hb =>
    ⟨⟨by rw [upd_ne (by rw [← hD]; exact Nat.ne_of_lt (below b hb))]; exact (fb b hb).1, (fb b hb).2⟩, by rw [heapd, Heap.size_push]; exact Nat.lt_succ_of_lt (below b hb)⟩
  have std : tn 0 sd.heap := T.keep _ _ _ stb fun b _ o e => by rw [heapd]; exact Heap.get?_push_of_some _ e
  have Ie := block_start Id blk hN fd
  generalize hcl : cellsFrom (sd.heap.objs.size + 1) sc.names (cloFrom X.env.cells sc.names []) = cl at Ie
  have pg := hg sd (upd Hb D (SetO X.w D (fun _ => false) 0)) sd.heap.objs.size cl fp
  have pt := ht sd (upd Hb D (SetO X.w D (fun _ => false) 0)) sd.heap.objs.size cl fp
  have pe := he sd (upd Hb D (SetO X.w D (fun _ => false) 0)) sd.heap.objs.size cl fp
  have none_fp : ∀ b ∈ fp, (upd Hb D (SetO X.w D (fun _ => false) 0)) b = none := fun b hb => (fd b hb).1.1
  show codeAny _ _ (.compStart (.SetComp elt [⟨tg, iter, ifs, 0⟩] sc pos) 0 (.ref it) (.ref D) (compEnvC sc cl sd.heap.objs.size X.env)) (compPost (model X.prog X.w) X.A X.xe use Qf (.ref D) sd.heap.objs.size) { sd with heap := pushCells (sd.heap.push { cls := .type "dict", data := .dict #[] }) sc.names }
  generalize hce : compEnvC sc cl sd.heap.objs.size X.env = ce at Ie pg pt pe ⊢
  have loc : ce.locals = sd.heap.objs.size := by rw [← hce]; rfl
  generalize hHd : upd Hb D (SetO X.w D (fun _ => false) 0) = Hd at Id Ie pg pt pe start none_fp fd
  generalize hse : ({ sd with heap := pushCells (sd.heap.push { cls := .type "dict", data := .dict #[] }) sc.names } : Shared) = se at Ie ⊢
  have ste : tn 0 se.heap := T.keep _ _ _ std fun b _ o e => by rw [← hse]; exact pushCells_keeps _ _ _ _ (Heap.get?_push_of_some _ e)
  have stat : ∀ {σ' : L2.St} {H' : Hp} {s' : Shared}, Inv (X.blk sd Hd sc ce fp) [] σ' H' s' → (∀ b ∈ fp, H' b = none) → ∀ b ∈ fp, FpOk (X.blk sd Hd sc ce fp) [] H' b :=
    fun {σ' H' s'} I' hn b hb => ⟨hn b hb, (I'.ok.exf b hb).1, I'.ok.exfs b hb, .inl hb, fun x c e => (I'.ok.exf b hb).2 x c e, fun p hp => absurd (show p ∈ ([] : List (Addr × Obj)) ++ [] from hp) (by simp)⟩
  let Z : Nat → Shared → Prop := fun n s' => ∃ i H', Inv (X.blk sd Hd sc ce fp) [] (wipe σ (own.map (·.2))) H' s' ∧ tn i s'.heap ∧ (∀ b ∈ fp, H' b = none) ∧ W i n H'
  have walk : codeAny (model X.prog X.w) X.A (.compLoop (.SetComp elt [⟨tg, iter, ifs, 0⟩] sc pos) 0 (.ref it) (.ref D) ce) (compPost (model X.prog X.w) X.A X.xe use Qf (.ref D) sd.heap.objs.size) se := by
    refine PpSet.compLoopS_any Z (fun n sf hz => ?_) m0 ⟨0, Hd, Ie, ste, none_fp, start⟩
    obtain ⟨i, Hf, If, stf, nf, wf⟩ := hz
    rcases turn i n Hf wf with ⟨stop, fin⟩ | ⟨go, Nx, hNx, step⟩
    · refine thnF (T.done (X.blk sd Hd sc ce fp) rfl rfl rfl calm i [] sf _ Hf (fun _ _ => False) If (stat If nf) stf stop) fun r sg ⟨hr, Ig⟩ => ?_
      subst hr
      have Ih : Inv X pins σ Hf sg := Id.call' (ch := fp) Ig.os Ig.base Ig.hok Ig.bare fun b hb => ⟨(fd b hb).1.2.2.2.1, (fd b hb).1.2.1, (fd b hb).1.2.2.2.2.1, (fd b hb).1.2.2.2.2.2⟩
      have nC : Hf sd.heap.objs.size = none := loc ▸ (show Hf ce.locals = none from Ig.free)
      obtain ⟨m, hm, _⟩ := Ig.loc
      exact land D sd.heap.objs.size sg m Hf Ih fin (loc ▸ (show sg.heap.Ns ce.locals m from hm)) (Id.fpOk (Nat.le_refl _) nC)
    · refine thnF (T.item (X.blk sd Hd sc ce fp) rfl rfl rfl calm i [] sf _ Hf (fun _ _ => False) If (stat If nf) stf go) fun r sg ⟨u, hr, hg⟩ => ?_
      subst hr
      refine thnF hg fun _ sh ⟨x, Hh, Ih, rh, yh, sth, nh⟩ => ?_
      refine thnF (pg.run _ sh _ Hh x u _ (Ih.pinned (stat Ih nh) (T.obj _ _ sth)) rh (step x Hh yh)) fun _ si ⟨σi, Hi, Ii, wi', qi⟩ => ?_
      refine thnF (pt.run _ si σi Hi _ Ii qi) fun b sj ⟨Hj, Ij, qj⟩ => ?_
      have close : ∀ {s' : Shared} {H' : Hp}, Inv (X.blk sd Hd sc ce fp) ([] ++ pinsAt fp sh.heap) σi H' s' → Nx H' → ∃ m, m < n ∧ Z m s' := fun {s' H'} I' nx => by
        obtain ⟨m', hm, w'⟩ := hNx H' nx
        have kept : ∀ b ∈ fp, ∀ o, sh.heap.get? b = some o → s'.heap.get? b = some o ∧ H' b = none := fun b hb o e =>
          ⟨(I'.pin (b, o) (List.mem_append_right _ (List.mem_append_right _ (mem_pinsAt hb e)))).1, (I'.pin (b, o) (List.mem_append_right _ (List.mem_append_right _ (mem_pinsAt hb e)))).2.1⟩
        refine ⟨m', hm, i + 1, H', (I'.unpinned (pins := [])).weak (by rw [← wi', wipe_length]) (fun j v e => (wipe_some (by rw [wi']; exact e)).1), T.keep _ _ _ sth fun b hb o e => (kept b hb o e).1, fun b hb => ?_, w'⟩
        obtain ⟨o, e, _⟩ := T.obj _ _ sth b hb
        exact (kept b hb o e).2
      cases b with
      | false => exact close Ij (by simpa using qj)
      | true =>
        have qj : te σi Hj fun y H4 => rSAdd X.w (.ref D) [y] H4 (fun _ => Nx) := by simpa using qj
        refine thnF (pe.run _ sj σi Hj _ Ij qj) fun z sk ⟨yv, Hk, Ik, rk, qk⟩ => ?_
        exact thnF (mt_sadd (X := X.blk sd Hd sc ce fp) _ sk σi Hk (.ref D) [yv] (.ref D) [z] (fun _ => Nx) Ik rfl (.cons rk .nil) qk) fun _ sl ⟨_, Hl, Il, _, ql⟩ => close Il ql
  exact PpSet.codeAny_compStart_set walk (T.self X.A 0 _ _ _ ste walk)
theorem pe_sci {elt tg iter : Expr} {ifs : List Expr} {sc : Scope} {own : List (PySem.Str × Nat)} {pos : Pos} {wi : TI} {g : TG} {tt : TT} {te : TE} (calm : X.calm = true) (hN : X.N.Nodup) (hi : PI X tg iter wi) (blk : BlkOk X.N X.env.scope sc own)
    (hg : ∀ s H C cl fp, PG (X.blk s H sc (compEnvC sc cl C X.env) fp) tg g) (ht : ∀ s H C cl fp, PTs (X.blk s H sc (compEnvC sc cl C X.env) fp) ifs tt) (he : ∀ s H C cl fp, PE (X.blk s H sc (compEnvC sc cl C X.env) fp) elt te)
    (fold : ∀ x, foldedSetIterable iter X.env x = pure x := by intro _; rfl) : PE X (.SetComp elt [⟨tg, iter, ifs, 0⟩] sc pos) (tScI X.w wi g tt te (own.map (·.2))) := by
  refine ⟨fun pins s σ H Q I h => ?_⟩
  rw [PpSet.eval_SetComp]
  refine sci_core calm hN I hi blk hg ht he fold h fun D C s' m H' I' q hn f => ⟨m, hn, fun h'' sb => ⟨.ref D, H', ?_, rfl, q⟩⟩
  exact I'.turned (t' := s'.toks) (fun b o hb e => (sb.2 b hb).trans e) f.1 f.2.1 f.2.2.2.1 f.2.2.2.2.1 f.2.2.2.2.2
/-- over a list that the block leaves as it is -/
theorem sci_list {w : World} {K : PySem.W.Frag} {a : Addr} {xs : List V} {g : TG} {tt : TT} {te : TE} {vs : List Nat} {σ : L2.St} {H1 : Hp} {D : Addr} {Qd : Hp → Prop} (Pv : Nat → Hp → Prop) (h0 : Pv 0 (upd H1 D (SetO w D (fun _ => false) 0))) (hl : ∀ i H, i ≤ xs.length → Pv i H → SqL K H a xs)
    (hs : ∀ i x H, xs[i]? = some x → Pv i H → g x (wipe σ vs) H fun σ2 H2 => wipe σ2 vs = wipe σ vs ∧ tt σ2 H2 fun b H3 => if b = true then te σ2 H3 fun y H4 => rSAdd w (.ref D) [y] H4 (fun _ => Pv (i + 1)) else Pv (i + 1) H3) (hd : ∀ H, Pv xs.length H → Qd H) :
    ∃ W : Nat → Nat → Hp → Prop, (∃ m, W 0 m (upd H1 D (SetO w D (fun _ => false) 0))) ∧ ∀ i m H, W i m H →
      ((Itl K a).stop i H ∧ Qd H) ∨ ((Itl K a).go i H ∧ ∃ Nx : Hp → Prop, (∀ H', Nx H' → ∃ m', m' < m ∧ W (i + 1) m' H') ∧ ∀ x H', (Itl K a).yld i H x H' → g x (wipe σ vs) H' fun σ2 H2 => wipe σ2 vs = wipe σ vs ∧
        tt σ2 H2 fun b H3 => if b = true then te σ2 H3 fun y H4 => rSAdd w (.ref D) [y] H4 (fun _ => Nx) else Nx H3) := by
  refine ⟨fun i m H => m + i = xs.length ∧ Pv i H, ⟨xs.length, rfl, h0⟩, fun i m H ⟨hm, p⟩ => ?_⟩
  have q := hl i H (by omega) p
  by_cases hlt : i < xs.length
  · exact .inr ⟨⟨xs, xs[i], q, List.getElem?_eq_getElem hlt⟩, Pv (i + 1), fun H' p' => ⟨m - 1, by omega, by omega, p'⟩, fun x H' ⟨e, y⟩ => by subst e; exact hs i x _ (y xs q) p⟩
  · have e : i = xs.length := by omega
    subst e
    exact .inl ⟨⟨xs, q, Nat.le_refl _⟩, hd H p⟩
/-- len of a set of ints -/
def rLenSI (w : World) : List V → Hp → VK → Prop := fun xs H Q => ∃ (a : Addr) (S : Int → Bool) (n : Nat), xs = [.ref a] ∧ H a = some (SetO w a S n) ∧ n ≤ 1000 ∧ Q (.int (n : Nat)) H
theorem call_lenSI : CallR X (.builtin "len") (rLenSI X.w) := by
  intro pins s σ H xs us Q I rv h
  obtain ⟨a, S, n, rfl, ha, hn, q⟩ := h
  obtain rfl := Vals.ref1 rv
  obtain ⟨o, es, ep, t, ho, hex, hd, _, _, _, _, hf, hsz, _⟩ := setO_get I ha
  exact call_len_set ho hex hd hf (by rw [hsz] <;> omega) ⟨.int n, H, I.tok _, ⟨_, by rw [hsz]⟩, q⟩
/-- range(n) as a value -/
def rRange1 : List V → Hp → VK → Prop := fun vs H Q => ∃ n : Int, vs = [V.int n] ∧ ∀ p, H p = none → Q (.ref p) (upd H p (.rng 0 n))
theorem cr_range1 : CallR X (.type "range") rRange1 := by
  intro pins s σ H vs us Q I r h
  obtain ⟨n, rfl, q⟩ := h
  obtain ⟨u1, rfl, t, rfl⟩ := vals1 r
  refine call_range_1 ⟨.ref s.heap.objs.size, upd H s.heap.objs.size (.rng 0 n), I.laid (t' := s.toks + 1 + 1) (fun b o e => Heap.get?_push_of_some _ e) (Nat.le_refl _) ?_, rfl, q _ (I.hok.fresh (Nat.le_refl _))⟩
  exact ⟨_, _, _, Heap.get?_push_size _ rfl⟩
/-- i not in r -/
theorem op_notIn_rng : OpR X (compareOp .NotIn) (fun x y H Q => ∃ i a lo hi, x = V.int i ∧ y = V.ref a ∧ H a = some (.rng lo hi) ∧ Q (.bl (!decide (lo ≤ i ∧ i < hi))) H) := by
  intro pins s σ H x y v u Q I rx ry h
  obtain ⟨i, a, lo, hi, rfl, rfl, ha, q⟩ := h
  obtain ⟨k, rfl⟩ := rx
  obtain rfl : u = Value.ref a := ry
  obtain ⟨t1, t2, t3, ho⟩ := I.hok a _ ha
  show wpAny _ _ (do return Value.bool (!(← contains (Value.ref a) (Value.int i k)))) _ _ s
  refine wpAny_bind (wpAny_contains_slot (T := "range") ⟨_, ho, rfl⟩ F.slot_range_contains (call_meets F.slot_range_contains ⟨_, ho, rfl⟩ F.entry_range_contains (F.args_range_contains_2 _ _) (q_contains a lo hi i t1 t2 t3 k) ⟨ho, wpAny_truthy_bool (wpAny_pure ⟨.bl _, H, I, rfl, ?_⟩)⟩))
  rw [place1]
  exact q
theorem readsI {h : Heap} : ∀ {ns : List Int} {us : List Value}, Vals (ns.map V.int) us → ReadsAll h us (ns.map .int) []
  | [], _, .nil => .nil
  | n :: ns, _, .cons r t => by
    obtain ⟨k, rfl⟩ := r
    exact ReadsAll.cons (as := []) (bs := []) (.int n k) (readsI t)
theorem depthI : ∀ ns : List Int, PyData.depthAll (ns.map .int) = 0
  | [] => rfl
  | n :: ns => by
    rw [List.map_cons]
    show max (PyData.depth (.int n)) (PyData.depthAll (ns.map .int)) = 0
    rw [depthI ns]
    rfl
def maxI : List Int → Int
  | [] => 0
  | n :: r => r.foldl max n
/-- max(xs, default=0) -/
def rMaxD : List V → List V → Hp → VK → Prop := fun vs zs H Q => ∃ (a : Addr) (ns : List Int), vs = [V.ref a] ∧ zs = [V.int 0] ∧ H a = some (.lst (ns.map V.int)) ∧ Q (.int (maxI ns)) H
theorem cr_maxD {k : Nat} (calm : X.calm = true) (hr : Room k X.A) : CallRK X (.builtin "max") [Str.ofString "default"] rMaxD := by
  intro pins s σ H vs zs us ws Q I r rz h
  obtain ⟨a, ns, rfl, rfl, ha, q⟩ := h
  obtain rfl := Vals.ref1 r
  obtain ⟨w1, rfl, t, rfl⟩ := vals1 rz
  obtain ⟨its, rv, pl, hz⟩ := I.list (SqL.of ha)
  refine PySem.W.max_list_default (xs := ns.map PyData.int) (as := []) (I.ok.hd calm) pl.isList (by simpa using readsI rv) ⟨fun x hx y hy => ?_, fun x hx => ?_⟩ ?_ (fun h0 h' tk hk => ?_) fun y ys i v h' tk bs hxs hi rd hk => ?_
  · obtain ⟨n1, _, rfl⟩ := List.mem_map.mp hx
    obtain ⟨n2, _, rfl⟩ := List.mem_map.mp hy
    rfl
  · obtain ⟨n1, _, rfl⟩ := List.mem_map.mp hx
    intro q
    cases q
  · rw [depthI]
    have := hr.un
    omega
  · have e0 : ns = [] := by simpa using h0
    subst e0
    exact ⟨.int 0, H, I.kept (t' := tk) hk, ⟨_, rfl⟩, q⟩
  · cases ns with
    | nil => cases hxs
    | cons n r =>
      rw [List.map_cons] at hxs
      obtain ⟨rfl, rfl⟩ := List.cons.inj hxs
      rw [PySem.W.maxD_ints] at rd
      cases rd
      exact ⟨.int _, H, I.kept (t' := tk) hk, ⟨_, rfl⟩, q⟩
end
end Oc
-- P4
set_option Elab.async false
set_option linter.all false
set_option maxRecDepth 100000
set_option maxHeartbeats 4000000
/-! check_day, day_hours, Plan(..). -/
namespace Oc
open PySem PySem.Spec PyProof.Rows L2
structure Cst (mg : Str → Option Value) : Prop where
  gW : ∃ t, mg "WIDEST" = some (.int 12 t)
  gM : ∃ t, mg "MOST_CARS" = some (.int 60 t)
  gL : ∃ t, mg "LATEST" = some (.int 60 t)
  gS : ∃ t, mg "LONGEST_STAY" = some (.int 12 t)
section
variable {P : Program} {w : World} {K : PySem.W.Frag} {mg : Str → Option Value} {base : Heap} {C : Addr}
/-! ### check_day -/
def spCkDay : Sp := fun vs H Q _ => ∃ (wd : Nat) (L : Addr) (cas : List Addr) (cars : List Car), vs = [iv wd, .ref L] ∧ CarsL H L cas cars ∧ 1 ≤ wd ∧ wd ≤ 12 ∧ cars.length ≤ 14 ∧ (∀ c ∈ cars, CarOk c) ∧ ∀ H', Frm [] H H' → Q .non H'
theorem scCkDay : FnScope ["width", "cars", "place", "come", "stay", "need"] ["width", "cars"] (defScope sCheckDay) := ⟨rfl, rfl, rfl, by decide +kernel, rfl, by decide +kernel, by decide +kernel⟩
theorem d_ckday {f : Addr} {fd : FuncData} (F : Fun K "check_day" "check_day" sCheckDay f fd) (g : mg "check_day" = some (.ref f)) (T : Txt K mg) (G : Cst mg) : DefAt P w K mg base CX0 1 "check_day" ["width", "cars"] spCkDay := by
  have nd := scCkDay.nd
  obtain ⟨t1, g1⟩ := G.gW
  obtain ⟨t2, g2⟩ := G.gM
  obtain ⟨t3, g3⟩ := G.gL
  obtain ⟨t4, g4⟩ := G.gS
  refine ⟨f, fd, F.ok scCkDay (fun vs H Q E h => ?_) (fun cdv A outer s H vs Q E hr h => ?_), g, F.kp, F.binds fun _ _ _ _ _ _ us hl => match us, hl with | [_, _], _ => rfl⟩
  · obtain ⟨_, _, _, _, rfl, _⟩ := h
    rfl
  · obtain ⟨wd, L, cas, cars, rfl, hC, w1, w2, hl, hok, k⟩ := h
    refine ⟨_, (pss_cons (ps_if (pt_not (pt_chain op_le op_le pe_int (pv 0) (pe_glob (v := .int 12) rfl g1 ⟨_, rfl⟩)))
        (pss_one ps_never)
        pss_nil)
      (pss_one (ps_for PassesOwn.never rfl (pi_enum (by rfl) T.enumerate (pa_cons (pv 1) pa_nil)) (pg_tup (by rfl) (pgs_cons (pg_name (i := 2) nd rfl (.inl rfl)) (pgs_cons (pg_tup (by rfl) (pgs_cons (pg_name (i := 3) nd rfl (.inl rfl)) (pgs_cons (pg_name (i := 4) nd rfl (.inl rfl)) (pgs_cons (pg_name (i := 5) nd rfl (.inl rfl)) pgs_nil)))) pgs_nil)))
        (pss_cons (ps_if (PW.pt (pw_or (pt_cmpR op_eq (pv 2) (pe_glob (v := .int 60) rfl g2 ⟨_, rfl⟩) (nomark _)) (pw_or1 (pt_not (pt_chain op_le op_le pe_int (pv 3) (pe_glob (v := .int 60) rfl g3 ⟨_, rfl⟩))))))
          (pss_one ps_never)
          pss_nil)
        (pss_one (ps_if (PW.pt (pw_or (pt_not (pt_chain op_le op_le pe_int (pv 4) (pe_glob (v := .int 12) rfl g4 ⟨_, rfl⟩))) (pw_or1 (pt_not (pt_chain op_le op_le pe_int (pv 5) (pv 4))))))
          (pss_one ps_never)
          pss_nil)))))), ?_⟩
    refine ⟨_, rfl, _, _, rfl, rfl, _, rfl, ifd (by omega) ⟨_, _, rfl, rfl, _, rfl, iteNS (by omega) ?_⟩⟩
    refine ⟨_, rfl, L, _, rfl, SqL.of hC.1, for_enum (K := K) (a := L) (xs := refs cas) (fun i σ H' => ∃ v2 v3 v4 v5, σ = [some (iv wd), some (.ref L), v2, v3, v4, v5] ∧ Frm [] H H') ⟨none, none, none, none, rfl, Frm.refl⟩ (fun i σ H' _ ⟨_, _, _, _, _, f⟩ => SqL.of (f.at hC.1 (by simp))) ?_ ?_⟩
    · rintro i y σ H' Tp hi ⟨v2, v3, v4, v5, rfl, f⟩ hT
      obtain ⟨a, ha, rfl⟩ := ix_map hi
      obtain ⟨o, ho, ea⟩ := hC.2.of ha
      obtain ⟨c, hc, rfl⟩ := ix_map ho
      have hk := hok c (List.mem_of_getElem? hc)
      have hil := lt_of_ix hc
      have fT : Frm [] H (upd H' Tp (.tup [iv i, .ref a])) := f.trans (Frm.new hT)
      have b1 := hk.come; have b2 := hk.s1; have b3 := hk.s2; have b4 := hk.n1; have b5 := hk.n2
      refine ⟨Tp, _, rfl, SqT.of upd_same, rfl, _, _, rfl, _, _, rfl, a, _, rfl, SqT.of (fT.tup ea), rfl, _, _, rfl, _, _, rfl, _, _, rfl, rfl, rfl, ?_⟩
      refine ⟨_, rfl, rfl, _, rfl, ifdn (fun q => ?_) ⟨_, rfl, _, _, rfl, rfl, _, rfl, ifd (by omega) ⟨_, _, rfl, rfl, _, rfl, iteNS (by omega) ?_⟩⟩⟩
      · have := V.int.inj q
        omega
      refine ⟨_, rfl, _, _, rfl, rfl, _, rfl, ifd (by omega) ⟨_, _, rfl, rfl, _, rfl, iteNS (by omega) ?_⟩⟩
      refine ⟨_, rfl, _, _, rfl, rfl, _, rfl, ifd (by omega) ⟨_, rfl, _, _, rfl, rfl, _, rfl, iteNS (by omega) ?_⟩⟩
      exact ⟨_, _, _, _, rfl, fT⟩
    · rintro σ H' ⟨v2, v3, v4, v5, rfl, f⟩
      exact k H' f
/-! ### day_hours -/
def spDayHours : Sp := fun vs H Q _ => ∃ (L : Addr) (cas : List Addr) (cars : List Car), vs = [.ref L] ∧ CarsL H L cas cars ∧ cars.length ≤ 14 ∧ ∀ H', Frm [] H H' → Q (iv (hoursOf cars)) H'
theorem scDayHours : FnScope ["cars", "come", "stay", "_"] ["cars"] (defScope sDayHours) := ⟨rfl, rfl, rfl, by decide +kernel, rfl, by decide +kernel, by decide +kernel⟩
theorem maxNat : ∀ (cars : List Car) (z : Nat), (cars.map fun c => (c.1 : Int) + (c.2.1 : Int)).foldl max (z : Int) = ((cars.foldl (fun m c => max m (c.1 + c.2.1)) z : Nat) : Int)
  | [], z => rfl
  | c :: r, z => by
    rw [List.map_cons, List.foldl_cons, List.foldl_cons, ← maxNat r (max z (c.1 + c.2.1))]
    congr 1
    omega
theorem maxCars (cars : List Car) : maxI (cars.map fun c => (c.1 : Int) + (c.2.1 : Int)) = ((hoursOf cars : Nat) : Int) := by
  cases cars with
  | nil => rfl
  | cons c r =>
    show (r.map fun c => (c.1 : Int) + (c.2.1 : Int)).foldl max ((c.1 : Int) + (c.2.1 : Int)) = _
    have e := maxNat r (c.1 + c.2.1)
    rw [Int.natCast_add] at e
    rw [e]
    show _ = ((r.foldl (fun m c => max m (c.1 + c.2.1)) (max 0 (c.1 + c.2.1)) : Nat) : Int)
    rw [Nat.zero_max]
theorem d_dayhours {f : Addr} {fd : FuncData} (F : Fun K "day_hours" "day_hours" sDayHours f fd) (g : mg "day_hours" = some (.ref f)) (T : Txt K mg) : DefAt P w K mg base CX0 3 "day_hours" ["cars"] spDayHours := by
  have nd := scDayHours.nd
  refine ⟨f, fd, F.ok scDayHours (fun vs H Q E h => ?_) (fun cdv A outer s H vs Q E hr h => ?_), g, F.kp, F.binds fun _ _ _ _ _ _ us hl => match us, hl with | [_], _ => rfl⟩
  · obtain ⟨_, _, _, rfl, _⟩ := h
    rfl
  · obtain ⟨L, cas, cars, rfl, hC, hl, k⟩ := h
    refine ⟨_, (pss_one (ps_ret (pe_callBK (cr_maxD rfl hr) (by rfl) T.max (by decide +kernel) (pa_cons (pe_lc (own := [("come", 1), ("stay", 2), ("_", 3)]) (g := gTup K 3 (gCons (gName 1) (gCons (gName 2) (gCons (gName 3) gNil)))) rfl nd (pi_list (pv 0)) (blkOk_by (own := [("come", 1), ("stay", 2), ("_", 3)]) (N := ["cars", "come", "stay", "_"]) (sc := defScope sDayHours) (by decide +kernel)) (fun _ _ _ _ _ => pg_tup rfl (pgs_cons (pg_name (i := 1) nd rfl (Or.inl rfl)) (pgs_cons (pg_name (i := 2) nd rfl (Or.inl rfl)) (pgs_cons (pg_name (i := 3) nd rfl (Or.inl rfl)) pgs_nil)))) (fun _ _ _ _ _ => pts_nil) (fun _ _ _ _ _ => (pe_op op_add (pv 1) (pv 2)))) pa_nil) (pk_cons pe_int pk_nil)))), ?_⟩
    refine ⟨_, rfl, L, rfl, ⟨_, SqL.of hC.1⟩, fun D hD => lc_list (K := K) (a := L) (xs := refs cas) (fun i H' => H' = upd H D (.lst ((cars.take i).map fun c => V.int ((c.1 : Int) + (c.2.1 : Int))))) rfl (fun i H' _ e => by rw [e]; exact SqL.of (by rw [upd_ne (ne_of_none hC.1 hD)]; exact hC.1)) ?_ ?_⟩
    · rintro i y H' hi rfl
      obtain ⟨a, ha, rfl⟩ := ix_map hi
      obtain ⟨o, ho, ea⟩ := hC.2.of ha
      obtain ⟨c, hc, rfl⟩ := ix_map ho
      have eaD : upd H D (.lst ((cars.take i).map fun c => V.int ((c.1 : Int) + (c.2.1 : Int)))) a = some (carO c) := by rw [upd_ne (ne_of_none ea hD)]; exact ea
      refine ⟨a, _, rfl, SqT.of eaD, rfl, _, _, rfl, _, _, rfl, _, _, rfl, rfl, rfl, yes_ ?_⟩
      refine ⟨_, rfl, _, rfl, _, _, rfl, rfl, _, upd_same, small1000 (by rw [List.length_map, List.length_take]; omega), ?_⟩
      rw [upd_upd, take_ix hc, List.map_append]
      rfl
    · rintro H' rfl
      have hcl : (refs cas).length = cars.length := by rw [List.length_map, hC.2.1, List.length_map]
      rw [hcl, List.take_length]
      refine ⟨D, cars.map (fun c => (c.1 : Int) + (c.2.1 : Int)), rfl, rfl, (by rw [upd_same, List.map_map]; rfl), ?_⟩
      rw [maxCars]
      exact k _ (Frm.new hD)
end
end Oc
-- P5
set_option Elab.async false
set_option linter.all false
set_option maxRecDepth 100000
set_option maxHeartbeats 4000000
/-! Plan(width, cars). -/
namespace Oc
open PySem PySem.Spec PyProof.Rows L2
section
variable {P : Program} {w : World} {K : PySem.W.Frag} {mg : Str → Option Value} {base : Heap} {C : Addr}
/-- what stands stands, but for one object -/
def But (x : Addr) (H H' : Hp) : Prop := ∀ b o, b ≠ x → H b = some o → H' b = some o
theorem But.refl {x : Addr} {H : Hp} : But x H H := fun _ _ _ h => h
theorem But.frm {x : Addr} {H H1 H2 : Hp} (a : But x H H1) (b : Frm [] H1 H2) : But x H H2 := fun c o n e => b.same _ _ (a c o n e)
theorem But.put {x p : Addr} {H H' : Hp} {o : HO} (a : But x H H') (h : H p = none) : But x H (upd H' p o) := fun b u n e => by
  rw [upd_ne (ne_of_none e h)]
  exact a b u n e
theorem But.set {x : Addr} {H H' : Hp} {o : HO} (a : But x H H') : But x H (upd H' x o) := fun b u n e => by
  rw [upd_ne n]
  exact a b u n e
theorem But.free {x p : Addr} {H H' : Hp} (a : But x H H') (h : H' p = none) (n : p ≠ x) : H p = none := by
  cases q : H p with
  | none => rfl
  | some o => have := a p o n q; rw [h] at this; cases this
def spInit (C : Addr) : Sp := fun vs H Q _ => ∃ (x dx : Addr) (wd : Nat) (L : Addr) (cas : List Addr) (cars : List Car), vs = [.ref x, iv wd, .ref L] ∧ H x = some (.ins C dx []) ∧ CarsL H L cas cars ∧ 1 ≤ wd ∧ wd ≤ 12 ∧ cars.length ≤ 14 ∧ (∀ c ∈ cars, CarOk c) ∧
  ∀ H' T S has, But x H H' → H T = none → H S = none → PlanAt C H' x T S wd cas cars has (List.replicate (hoursOf cars) []) → Q .non H'
theorem scInit : FnScope ["self", "width", "cars", "car", "_"] ["self", "width", "cars"] (defScope sInit) := ⟨rfl, rfl, rfl, by decide +kernel, rfl, by decide +kernel, by decide +kernel⟩
theorem ok_init {f : Addr} {fd : FuncData} (F : Fun K "__init__" "Plan.__init__" sInit f fd) (T : Txt K mg) (PC : PlanC K C) (DC : DefAt P w K mg base CX0 1 "check_day" ["width", "cars"] spCkDay) (DH : DefAt P w K mg base CX0 3 "day_hours" ["cars"] spDayHours) : FnOk P w K mg base CX0 4 f fd ["self", "width", "cars"] (spInit C) := by
  have nd := scInit.nd
  refine F.ok scInit (fun vs H Q E h => ?_) (fun cdv A outer s H vs Q E hr h => ?_)
  · obtain ⟨_, _, _, _, _, _, rfl, _⟩ := h
    rfl
  · obtain ⟨x, dx, wd, L, cas, cars, rfl, hx, hC, w1, w2, hl, hok, k⟩ := h
    have hr1 : Room 1 _ := hr.mono (by decide)
    refine ⟨_, (pss_cons (ps_expr (pe_def DC hr1 pass0 (pa_cons (pv 1) (pa_cons (pv 2) pa_nil))))
      (pss_cons (ps_fld (pv 0) (pv 1) rfl)
      (pss_cons (ps_fld (pv 0) (pe_callTy call_tuple_of (by rfl) T.tuple (by decide +kernel) (pa_cons (pe_lc (own := [("car", 3)]) (g := gName 3) rfl nd (pi_list (pv 2)) (blkOk_by (own := [("car", 3)]) (N := ["self", "width", "cars", "car", "_"]) (sc := defScope sInit) (by decide +kernel)) (fun _ _ _ _ _ => pg_name (i := 3) nd rfl (Or.inl rfl)) (fun _ _ _ _ _ => pts_nil) (fun _ _ _ _ _ => (pe_callTy (call_tuple_ofK K) (by rfl) T.tuple (by decide +kernel) (pa_cons (pv 3) pa_nil)))) pa_nil)) rfl)
      (pss_one (ps_fld (pv 0) (pe_lc (own := [("_", 4)]) (g := gName 4) rfl nd (pi_range1 rfl T.range (pa_cons (pe_def DH hr pass0 (pa_cons (pv 2) pa_nil)) pa_nil)) (blkOk_by (own := [("_", 4)]) (N := ["self", "width", "cars", "car", "_"]) (sc := defScope sInit) (by decide +kernel)) (fun _ _ _ _ _ => pg_name (i := 4) nd rfl (Or.inl rfl)) (fun _ _ _ _ _ => pts_nil) (fun _ _ _ _ _ => (pe_tup pa_nil))) rfl))))), ?_⟩
    have hcl : (refs cas).length = cars.length := by rw [List.length_map, hC.2.1, List.length_map]
    refine ⟨_, rfl, _, rfl, wd, L, cas, cars, rfl, hC, w1, w2, hl, hok, fun H1 f1 => ?_⟩
    have hx1 := f1.ins hx
    have hC1 := hC.frm f1 (by simp)
    refine ⟨_, rfl, _, rfl, x, C, dx, [], rfl, hx1, PC.cl, PC.nW, (by show 0 < 1000; decide), ?_⟩
    -- self.cars
    generalize hH2 : upd H1 x (.ins C dx (putF "width" (iv wd) [])) = H2
    have b2 : But x H H2 := by rw [← hH2]; exact (But.frm But.refl f1).set
    have hx2 : H2 x = some (.ins C dx (putF "width" (iv wd) [])) := by rw [← hH2]; exact upd_same
    have nLx : L ≠ x := ne_of hC.1 hx (by intro q; cases q)
    have hL2 : H2 L = some (.lst (refs cas)) := b2 L _ nLx hC.1
    have hc2 : ∀ a c, H a = some (carO c) → H2 a = some (carO c) := fun a c e => b2 a _ (ne_of e hx (by intro q; cases q)) e
    refine ⟨_, rfl, L, rfl, ⟨_, SqL.of hL2⟩, fun D hD => lc_list (K := K) (a := L) (xs := refs cas) (fun i H' => H' = upd H2 D (.lst (refs (cas.take i)))) rfl (fun i H' _ e => by rw [e]; exact SqL.of (by rw [upd_ne (ne_of_none hL2 hD)]; exact hL2)) ?_ ?_⟩
    · rintro i y H' hi rfl
      obtain ⟨a, ha, rfl⟩ := ix_map hi
      obtain ⟨o, ho, ea⟩ := hC.2.of ha
      obtain ⟨c, hc, rfl⟩ := ix_map ho
      have ea2 := hc2 a c ea
      have hil := lt_of_ix hc
      refine ⟨rfl, yes_ ?_⟩
      refine ⟨_, rfl, a, _, rfl, .inr ⟨SqT.of (by rw [upd_ne (ne_of_none ea2 hD)]; exact ea2), _, upd_same, small1000 (by rw [List.length_map, List.length_take]; omega), ?_⟩⟩
      rw [upd_upd, take_ix ha]
      show _ = upd H2 D (.lst ((cas.take i ++ [a]).map V.ref))
      rw [List.map_append]
      rfl
    · rintro H' rfl
      rw [show (refs cas).length = cas.length from List.length_map _, List.take_length]
      refine ⟨D, _, rfl, .inl ⟨SqL.of upd_same, fun TT hT => ?_⟩⟩
      have nTD : TT ≠ D := fun e => by rw [e, upd_same] at hT; cases hT
      have hT2 : H2 TT = none := by rw [upd_ne nTD] at hT; exact hT
      have nxD : x ≠ D := ne_of_none hx2 hD
      have nxT : x ≠ TT := ne_of_none hx2 hT2
      refine ⟨_, rfl, x, C, dx, _, rfl, (by rw [upd_ne nxT, upd_ne nxD]; exact hx2), PC.cl, PC.nC, (by show 1 < 1000; decide), ?_⟩
      -- self.hours_served
      have hDH : H D = none := b2.free hD nxD.symm
      have hTH : H TT = none := b2.free hT2 nxT.symm
      generalize hH3 : upd (upd (upd H2 D (.lst (refs cas))) TT (.tup (refs cas))) x (.ins C dx (putF "cars" (.ref TT) (putF "width" (iv wd) []))) = H3
      have b3 : But x H H3 := by rw [← hH3]; exact ((b2.put hDH).put hTH).set
      have hx3 : H3 x = some (.ins C dx (putF "cars" (.ref TT) (putF "width" (iv wd) []))) := by rw [← hH3]; exact upd_same
      have hT3 : H3 TT = some (.tup (refs cas)) := by rw [← hH3, upd_ne nxT.symm, upd_same]
      have hC3 : CarsL H3 L cas cars := ⟨b3 L _ nLx hC.1, hC.2.imp fun a _ o ho e => by
        obtain ⟨c, _, rfl⟩ := List.mem_map.mp ho
        exact b3 a _ (ne_of e hx (by intro q; cases q)) e⟩
      refine ⟨_, rfl, L, cas, cars, rfl, hC3, hl, fun H4 f4 => ?_⟩
      have h72 := hoursOf_72 hok
      refine ⟨hoursOf cars, rfl, by omega, by omega, fun S hS => ?_⟩
      have hSx : S ≠ x := fun e => by rw [e, f4.ins hx3] at hS; cases hS
      have hSH : H S = none := b3.free (f4.free hS) hSx
      have eput : putF "hours_served" (.ref S) (putF "cars" (.ref TT) (putF "width" (iv wd) [])) = pfs wd TT S := by
        simp [putF, pfs, wc, wh, ch]
      refine lc_range (lo := 0) (n := hoursOf cars) (fun i H' => ∃ as : List Addr, H' S = some (.lst (refs as)) ∧ as.length = i ∧ Frm [S] (upd H4 S (.lst [])) H' ∧ Objs H' as ((List.replicate i ([] : List Nat)).map tupO)) ⟨[], upd_same, rfl, Frm.refl, Objs.nil⟩ ?_ ?_
      · rintro i H' hi ⟨as, hS', has, f', ob⟩
        refine ⟨rfl, yes_ ?_⟩
        refine ⟨Nat.zero_le _, fun t ht => ?_⟩
        have ntS : S ≠ t := ne_of_none hS' ht
        refine ⟨_, (by rw [upd_ne ntS]; exact hS'), small1000 (by rw [List.length_map]; omega), as ++ [t], ?_, by rw [List.length_append]; simp; exact has, ?_, ?_⟩
        · rw [upd_same]
          show some (HO.lst (as.map V.ref ++ [.ref t])) = some (.lst ((as ++ [t]).map V.ref))
          rw [List.map_append]
          rfl
        · exact (f'.trans (Frm.new ht)).trans (Frm.set (List.mem_singleton.mpr rfl) (by rw [upd_ne ntS]; exact hS'))
        · rw [show List.replicate (i + 1) ([] : List Nat) = List.replicate i [] ++ [[]] from List.replicate_succ', List.map_append]
          refine Objs.snoc (ob.imp fun a _ o ho e => ?_) (by rw [upd_ne ntS.symm, upd_same]; rfl)
          obtain ⟨r, _, rfl⟩ := List.mem_map.mp ho
          rw [upd_ne (ne_of e hS' (by intro q; cases q)), upd_ne (ne_of_none e ht)]
          exact e
      · rintro H' ⟨as, hS', has, f', ob⟩
        have f5 : ∀ b o, b ≠ x → H b = some o → H' b = some o := fun b o n e => by
          have e4 : H4 b = some o := f4.same _ _ (b3 b o n e)
          exact f'.at (by rw [upd_ne (ne_of_none e hSH)]; exact e4) (not1 (ne_of_none e hSH))
        have h4' : ∀ b o, b ≠ S → H4 b = some o → H' b = some o := fun b o n e => f'.at (by rw [upd_ne n]; exact e) (not1 n)
        have hx5 : H' x = some (.ins C dx (putF "cars" (.ref TT) (putF "width" (iv wd) []))) := h4' x _ hSx.symm (f4.ins hx3)
        refine ⟨_, rfl, x, C, dx, _, rfl, hx5, PC.cl, PC.nH, (by show 2 < 1000; decide), ?_⟩
        rw [eput]
        refine k _ TT S as (fun b o n e => by rw [upd_ne n]; exact f5 b o n e) hTH hSH ⟨⟨dx, upd_same⟩, ⟨?_, ?_⟩, ?_, ?_⟩
        · rw [upd_ne nxT.symm]
          exact h4' TT _ (fun e => by rw [e] at hT3; rw [f4.tup hT3] at hS; cases hS) (f4.tup hT3)
        · exact hC.2.imp fun a _ o ho e => by
            obtain ⟨c, _, rfl⟩ := List.mem_map.mp ho
            rw [upd_ne (ne_of e hx (by intro q; cases q))]
            exact f5 a _ (ne_of e hx (by intro q; cases q)) e
        · rw [upd_ne hSx]
          exact hS'
        · refine ob.imp fun a _ o ho e => ?_
          obtain ⟨r, _, rfl⟩ := List.mem_map.mp ho
          rw [upd_ne (ne_of e hx5 (by intro q; cases q))]
          exact e
end
end Oc
-- P6
set_option Elab.async false
set_option linter.all false
set_option maxRecDepth 100000
set_option maxHeartbeats 4000000
/-! set_hour, plan[h] = .. -/
namespace Oc
open PySem PySem.Spec PyProof.Rows L2
theorem nodup_take {ns : List Nat} (h : ns.Nodup) {i k : Nat} (e : ns[i]? = some k) : (k : Int) ∉ (ns.take i).map (fun n : Nat => (n : Int)) := fun hm => by
  obtain ⟨n, hn, he⟩ := List.mem_map.mp hm
  have : n = k := by omega
  subst this
  obtain ⟨j, hj, ej⟩ := List.getElem_of_mem hn
  rw [List.length_take] at hj
  have ej' : ns[j]? = some n := by rw [List.getElem_take] at ej; rw [List.getElem?_eq_getElem (by omega), ej]
  have := nd_at h ej' e
  omega
theorem sortedN {zs : List Int} {ns : List Nat} (hp : zs.Perm (ns.map fun n : Nat => (n : Int))) (ho : zs.Pairwise (· ≤ ·)) : ∃ ns' : List Nat, zs = ns'.map (fun n : Nat => (n : Int)) ∧ ns'.Perm ns ∧ ns'.Pairwise (· ≤ ·) := by
  have e : zs = (zs.map Int.toNat).map (fun n : Nat => (n : Int)) := by
    rw [List.map_map]
    refine (List.map_congr_left (g := id) fun z hz => ?_).symm ▸ (List.map_id zs).symm
    obtain ⟨n, _, rfl⟩ := List.mem_map.mp (hp.mem_iff.mp hz)
    rfl
  have p2 : (zs.map Int.toNat).Perm ns := by
    have q := hp.map Int.toNat
    rw [List.map_map] at q
    have e2 : ns.map (Int.toNat ∘ fun n : Nat => (n : Int)) = ns := (List.map_congr_left (g := id) fun n _ => rfl).trans (List.map_id ns)
    rwa [e2] at q
  refine ⟨zs.map Int.toNat, e, p2, ?_⟩
  rw [List.pairwise_map]
  exact ho.imp fun {a b} h => by omega
section
variable {P : Program} {w : World} {K : PySem.W.Frag} {mg : Str → Option Value} {base : Heap} {C CB fI cc cda : Addr}
abbrev MInWin (P : Program) (w : World) (K : PySem.W.Frag) (mg : Str → Option Value) (base : Heap) (C : Addr) : Prop := MethAt P w K mg base CX0 1 C "in_window" ["self", "number", "hour"] (spInWin C)
/-- these numbers may be set for the hour -/
structure MaySet (wd : Nat) (cars : List Car) (rows : Rows) (h : Nat) (ns : List Nat) : Prop where
  nd : ns.Nodup
  wid : ns.length ≤ wd
  car : ∀ k ∈ ns, ∃ c, cars[k]? = some c ∧ c.1 ≤ h ∧ h < c.1 + c.2.1 ∧ gotN (rows.set h []) k < c.2.2
def spSetHour (C : Addr) : Sp := fun vs H Q _ => ∃ (O T S : Addr) (wd : Nat) (cas : List Addr) (cars : List Car) (has : List Addr) (rows : Rows) (h : Nat) (r0 : List Nat) (N : Addr) (ns : List Nat), vs = [.ref O, iv h, .ref N] ∧ PlanAt C H O T S wd cas cars has rows ∧ rows.length ≤ 1000 ∧ rows[h]? = some r0 ∧ H N = some (rowO ns) ∧ wd ≤ 60 ∧ MaySet wd cars rows h ns ∧
  ∀ H' has' ns', ns'.Perm ns → ns'.Pairwise (· ≤ ·) → Frm [S] H H' → PlanAt C H' O T S wd cas cars has' (rows.set h ns') → Q .non H'
theorem scSetHour : FnScope ["self", "hour", "numbers", "number", "others"] ["self", "hour", "numbers"] (defScope sSetHour) := ⟨rfl, rfl, rfl, by decide +kernel, rfl, by decide +kernel, by decide +kernel⟩
theorem m_sethour {f : Addr} {fd : FuncData} (F : Fun K "set_hour" "Plan.set_hour" sSetHour f fd) (M : Meth K C "set_hour" f) (T : Txt K mg) (PC : PlanC K C) (DH : MCkHour P w K mg base C) (DC : MCkCar P w K mg base C CB) (DW : MInWin P w K mg base C) (DG : MGot P w K mg base C CB) :
    MethAt P w K mg base CX0 5 C "set_hour" ["self", "hour", "numbers"] (spSetHour C) := by
  have nd := scSetHour.nd
  refine ⟨f, fd, F.ok scSetHour (fun vs H Q E h => ?_) (fun cdv A outer s H vs Q E hr h => ?_), M, F.binds fun _ _ _ _ _ _ us hl => match us, hl with | [_, _, _], _ => rfl⟩
  · obtain ⟨_, _, _, _, _, _, _, _, _, _, _, _, rfl, _⟩ := h
    rfl
  · obtain ⟨O, Tt, S, wd, cas, cars, has, rows, h, r0, N, ns, rfl, hP, hz, hr0, hN, w60, hM, k⟩ := h
    have hr1 : Room 1 _ := hr.mono (by decide)
    have hr3 : Room 3 _ := hr.mono (by decide)
    refine ⟨_, (pss_cons (ps_expr (pe_mth DH PC.cl hr1 pass0 (pv 0) (pa_cons (pv 1) pa_nil)))
      (pss_cons (ps_for PassesOwn.never rfl (pi_list (pv 2)) (pg_name (i := 3) nd rfl (.inl rfl))
        (pss_one (ps_expr (pe_mth DC PC.cl hr3 passL (pv 0) (pa_cons (pv 3) pa_nil)))))
      (pss_cons (ps_if (pt_cmpR op_lt (pe_callB call_lenSI (by rfl) T.len PySem.boot_len (pa_cons (pe_sci (own := [("number", 3)]) (g := gName 3) rfl nd (pi_list (pv 2)) (blkOk_by (own := [("number", 3)]) (N := ["self", "hour", "numbers", "number", "others"]) (sc := defScope sSetHour) (by decide +kernel)) (fun _ _ _ _ _ => pg_name (i := 3) nd rfl (Or.inl rfl)) (fun _ _ _ _ _ => pts_nil) (fun _ _ _ _ _ => (pv 3))) pa_nil)) (pe_callB call_len_seq (by rfl) T.len PySem.boot_len (pa_cons (pv 2) pa_nil)) (nomark _))
        (pss_one ps_never)
        pss_nil)
      (pss_cons (ps_if (pt_cmpR op_gt (pe_callB call_len_seq (by rfl) T.len PySem.boot_len (pa_cons (pv 2) pa_nil)) (pe_fld (pv 0) rfl) (nomark _))
        (pss_one ps_never)
        pss_nil)
      (pss_cons (ps_for PassesOwn.never rfl (pi_list (pv 2)) (pg_name (i := 3) nd rfl (.inl rfl))
        (pss_one (ps_if (pt_not (pt_val (pe_mth DW PC.cl hr1 pass0 (pv 0) (pa_cons (pv 3) (pa_cons (pv 1) pa_nil)))))
          (pss_one ps_never)
          pss_nil)))
      (pss_cons (ps_for PassesOwn.never rfl (pi_list (pv 2)) (pg_name (i := 3) nd rfl (.inl rfl))
        (pss_cons (ps_set (i := 4) nd rfl (.inl rfl) (pe_op op_sub (pe_mth DG PC.cl hr passL (pv 0) (pa_cons (pv 3) pa_nil)) (pe_callTy call_int1 (by rfl) T.int (by decide +kernel) (pa_cons (pe_cmpR op_in_seq (pv 3) (pe_ix ix_list (pe_fld (pv 0) rfl) (pv 1) (fun _ _ => rfl)) (by rfl)) pa_nil))))
        (pss_one (ps_if (pt_cmpR op_ge (pv 4) (pe_ix ix_tup (pe_ix ix_tup (pe_fld (pv 0) rfl) (pv 3) (fun _ _ => rfl)) pe_int (fun _ _ => rfl)) (nomark _))
          (pss_one ps_never)
          pss_nil))))
      (pss_one (ps_asg (pe_callTy call_tuple_of (by rfl) T.tuple (by decide +kernel) (pa_cons (pe_callB cr_sorted (by rfl) T.sorted (by decide +kernel) (pa_cons (pv 2) pa_nil)) pa_nil)) (pg_sub (pe_fld (pv 0) rfl) (pv 1) set_list))))))))), ?_⟩
    obtain ⟨dx, eO⟩ := hP.ob
    have hlen : (ns.map iv).length = ns.length := List.length_map _
    have hw := hM.wid
    refine ⟨_, rfl, O, dx, _, rfl, eO, pf_m (by simp), _, rfl, O, Tt, S, wd, cas, cars, has, rows, h, rfl, hP, lt_of_ix hr0, ?_⟩
    -- for number in numbers: self._check_car(number)
    refine ⟨_, rfl, N, rfl, ⟨_, SqL.of hN⟩, for_list (K := K) (a := N) (xs := ns.map iv) (fun i σ H' => ∃ v3, σ = [some (.ref O), some (iv h), some (.ref N), v3, none] ∧ H' = H) ⟨none, rfl, rfl⟩ (fun i σ H' _ ⟨_, _, e⟩ => by rw [e]; exact SqL.of hN) ?_ ?_⟩
    · rintro i y σ H' hi ⟨v3, rfl, rfl⟩
      obtain ⟨n, hn, rfl⟩ := ix_map hi
      obtain ⟨c, hc, _⟩ := hM.car n (List.mem_of_getElem? hn)
      have hnl := lt_of_ix hc
      refine ⟨_, rfl, O, dx, _, rfl, eO, pf_m (by simp), _, rfl, O, Tt, S, wd, cas, cars, has, rows, n, rfl, hP, fun _ => ⟨_, rfl, rfl⟩, fun q => absurd ⟨by omega, by omega⟩ q⟩
    · rintro σ H' ⟨v3, rfl, rfl⟩
      -- the set
      refine ⟨_, rfl, N, rfl, ⟨_, SqL.of hN⟩, fun D hD => sci_list (w := w) (K := K) (a := N) (xs := ns.map iv) (fun i H2 => ∃ Sx, H2 = upd H' D (SetO w D Sx i) ∧ ∀ j : Int, Sx j = true → j ∈ (ns.take i).map (fun n : Nat => (n : Int))) ⟨_, rfl, fun j q => by cases q⟩ (fun i H2 _ ⟨_, e, _⟩ => by rw [e]; exact SqL.of (by rw [upd_ne (ne_of_none hN hD)]; exact hN)) ?_ ?_⟩
      · rintro i y H2 hi ⟨Sx, rfl, hS⟩
        obtain ⟨n, hn, rfl⟩ := ix_map hi
        have hni := lt_of_ix hn
        have sb : 1000 ≤ scanBound := by decide
        refine ⟨rfl, yes_ ?_⟩
        refine ⟨_, rfl, D, n, Sx, i, rfl, rfl, upd_same, by omega, fun j => Sx j || decide (j = (n : Int)), ?_, fun j q => ?_⟩
        · rw [upd_upd, if_neg (fun q => nodup_take hM.nd hn (hS _ q))]
        · rw [take_ix hn, List.map_append, List.mem_append]
          rcases (Bool.or_eq_true _ _).mp q with q | q
          · exact .inl (hS j q)
          · exact .inr (by simpa using of_decide_eq_true q)
      · rintro H2 ⟨Sx, rfl, hS⟩
        rw [hlen]
        have fD : Frm [] H' (upd H' D (SetO w D Sx ns.length)) := Frm.new hD
        have hD3 : (upd H' D (SetO w D Sx ns.length)) D = some (SetO w D Sx ns.length) := upd_same
        generalize upd H' D (SetO w D Sx ns.length) = H3 at fD hD3 ⊢
        have hN3 : H3 N = some (rowO ns) := fD.at hN (by simp)
        have hP3 := hP.frm fD (by simp)
        have eO3 := fD.ins eO
        refine ⟨D, Sx, ns.length, rfl, hD3, by omega, _, rfl, N, _, rfl, .inl (SqL.of hN3), _, _, rfl, rfl, _, rfl, ifdn (by rw [hlen]; omega) ?_⟩
        refine ⟨_, rfl, N, _, rfl, .inl (SqL.of hN3), _, rfl, O, C, dx, _, _, rfl, eO3, PC.cl, PC.nW, pf_w _ _ _, _, _, rfl, rfl, _, rfl, ifdn (by rw [hlen]; omega) ?_⟩
        -- in_window
        refine ⟨_, rfl, N, rfl, ⟨_, SqL.of hN3⟩, for_list (K := K) (a := N) (xs := ns.map iv) (fun i σ H4 => ∃ v3, σ = [some (.ref O), some (iv h), some (.ref N), v3, none] ∧ H4 = H3) ⟨_, rfl, rfl⟩ (fun i σ H4 _ ⟨_, _, e⟩ => by rw [e]; exact SqL.of hN3) ?_ ?_⟩
        · rintro i y σ H4 hi ⟨v3, rfl, rfl⟩
          obtain ⟨n, hn, rfl⟩ := ix_map hi
          obtain ⟨c, hc, c1, c2, _⟩ := hM.car n (List.mem_of_getElem? hn)
          refine ⟨_, rfl, O, dx, _, rfl, eO3, pf_m (by simp), _, rfl, _, rfl, O, Tt, S, wd, cas, cars, has, rows, n, h, c, rfl, hP3, hc, ?_⟩
          rw [decide_eq_true ⟨c1, c2⟩]
          exact ⟨_, rfl, iteF ⟨_, rfl, rfl⟩⟩
        · rintro σ H4 ⟨v3, rfl, rfl⟩
          -- need
          refine ⟨_, rfl, N, rfl, ⟨_, SqL.of hN3⟩, for_list (K := K) (a := N) (xs := ns.map iv) (fun i σ H5 => ∃ v3 v4, σ = [some (.ref O), some (iv h), some (.ref N), v3, v4] ∧ Frm [] H4 H5) ⟨_, _, rfl, Frm.refl⟩ (fun i σ H5 _ ⟨_, _, _, f⟩ => SqL.of (f.at hN3 (by simp))) ?_ ?_⟩
          · rintro i y σ H5 hi ⟨v3, v4, rfl, f5⟩
            obtain ⟨n, hn, rfl⟩ := ix_map hi
            obtain ⟨c, hc, c1, c2, hneed⟩ := hM.car n (List.mem_of_getElem? hn)
            have hP5 := hP3.frm f5 (by simp)
            have hnl := lt_of_ix hc
            refine ⟨_, rfl, O, dx, _, rfl, f5.ins eO3, pf_m (by simp), _, rfl, O, Tt, S, wd, cas, cars, has, rows, n, rfl, hP5, hz, fun k' ek hk' H6 f6 => ?_, fun q => absurd ⟨by omega, by omega⟩ q⟩
            obtain rfl : n = k' := by omega
            have hP6 := hP5.frm f6 (by simp)
            have eO6 := f6.ins (f5.ins eO3)
            obtain ⟨a, ha, ea⟩ := hP6.row hr0
            obtain ⟨ca, hca, eca⟩ := hP6.car hc
            refine ⟨_, rfl, _, rfl, O, C, dx, _, _, rfl, eO6, PC.cl, PC.nH, pf_h _ _ _, _, rfl, S, _, _, _, rfl, rfl, SqL.of hP6.hs, atI_nat (map_ix ha), a, _, rfl, .inr (SqT.of ea), rfl, flat_iv r0, .inr ⟨_, rfl, _, _, rfl, rfl, ?_⟩⟩
            rw [inV_iv]
            refine ⟨_, rfl, _, rfl, O, C, dx, _, _, rfl, eO6, PC.cl, PC.nC, pf_c _ _ _, _, rfl, Tt, _, _, _, rfl, rfl, SqT.of hP6.ct.1, atI_nat (map_ix hca), ca, _, 2, _, rfl, rfl, SqT.of eca, atI_nat (j := 2) rfl, _, _, rfl, rfl, _, rfl, ifdn ?_ ?_⟩
            · have e1 := gotN_set hr0 [] n
              rw [if_neg (by simp : ¬ n ∈ ([] : List Nat))] at e1
              by_cases hm : n ∈ r0
              · rw [if_pos hm] at e1
                rw [decide_eq_true hm]
                show ¬ ((c.2.2 : Int) ≤ (gotN rows n : Int) - 1)
                omega
              · rw [if_neg hm] at e1
                simp only [decide_eq_false hm, Bool.false_eq_true, if_false]
                omega
            · exact ⟨_, _, rfl, f5.trans f6⟩
          · rintro σ H5 ⟨v3, v4, rfl, f5⟩
            have hP5 := hP3.frm f5 (by simp)
            have eO5 := f5.ins eO3
            have hN5 := f5.at hN3 (by simp)
            have hl := lt_of_ix hr0
            have hhl : h < has.length := by have := hP.hl; rw [List.length_map] at this; omega
            refine ⟨_, rfl, N, ns.map (fun n : Nat => (n : Int)), rfl, SqL.of (by rw [hN5, List.map_map]; rfl), (by rw [List.length_map]; omega), fun zs p hp ho hpn => ?_⟩
            obtain ⟨ns', rfl, hperm, hord⟩ := sortedN hp ho
            refine ⟨p, _, rfl, .inl ⟨SqL.of upd_same, fun tA htA => ?_⟩⟩
            have npt : p ≠ tA := fun e => by rw [← e, upd_same] at htA; cases htA
            have htA5 : H5 tA = none := by rw [upd_ne npt.symm] at htA; exact htA
            generalize hH6 : upd (upd H5 p (.lst ((ns'.map (fun n : Nat => (n : Int))).map V.int))) tA (.tup ((ns'.map (fun n : Nat => (n : Int))).map V.int)) = H6
            have f6 : Frm [] H5 H6 := by rw [← hH6]; exact (Frm.new hpn).trans (Frm.new htA)
            have hP6 := hP5.frm f6 (by simp)
            have et : H6 tA = some (tupO ns') := by rw [← hH6, upd_same, List.map_map]; rfl
            refine ⟨_, rfl, O, C, dx, _, _, rfl, f6.ins eO5, PC.cl, PC.nH, pf_h _ _ _, _, rfl, S, _, h, h, rfl, rfl, hP6.hs, ?_, ?_⟩
            · have z : h < (refs has).length := by rw [List.length_map]; exact hhl
              simp [ixN]
              omega
            · rw [show (refs has).set h (.ref tA) = refs (has.set h tA) from (List.map_set ..).symm]
              have ntS : tA ≠ S := ne_of et hP6.hs (by intro q; cases q)
              have fS : Frm [S] H6 (upd H6 S (.lst (refs (has.set h tA)))) := Frm.set (List.mem_singleton.mpr rfl) hP6.hs
              have old : ∀ b xs, H6 b = some (.tup xs) → upd H6 S (.lst (refs (has.set h tA))) b = some (.tup xs) := fun b xs e => fS.tup e
              refine k _ (has.set h tA) ns' hperm hord (((fD.trans f5).trans f6).nil.trans fS) ⟨⟨dx, fS.ins (f6.ins eO5)⟩, hP6.ct.frm fS, upd_same, ?_⟩
              rw [List.map_set]
              refine hP6.ho.set (old tA _ et) fun b u hb e => ?_
              obtain ⟨i, hi, rfl⟩ := List.getElem_of_mem hb
              obtain ⟨o, ho', e'⟩ := hP6.ho.of (List.getElem?_eq_getElem hi)
              obtain ⟨r, _, rfl⟩ := ix_map ho'
              rw [e'] at e
              cases e
              exact old _ _ e'
abbrev MSetHour (P : Program) (w : World) (K : PySem.W.Frag) (mg : Str → Option Value) (base : Heap) (C : Addr) : Prop := MethAt P w K mg base CX0 5 C "set_hour" ["self", "hour", "numbers"] (spSetHour C)
theorem scSetItem : FnScope ["self", "hour", "numbers"] ["self", "hour", "numbers"] (defScope sSetItem) := ⟨rfl, rfl, rfl, by decide +kernel, rfl, by decide +kernel, by decide +kernel⟩
theorem m_setitem {f : Addr} {fd : FuncData} (F : Fun K "__setitem__" "Plan.__setitem__" sSetItem f fd) (M : Meth K C "__setitem__" f) (PC : PlanC K C) (D : MSetHour P w K mg base C) : MethAt P w K mg base CX0 6 C "__setitem__" ["self", "hour", "numbers"] (spSetHour C) := by
  refine ⟨f, fd, F.ok scSetItem (fun vs H Q E h => ?_) (fun cdv A outer s H vs Q E hr h => ?_), M, F.binds fun _ _ _ _ _ _ us hl => match us, hl with | [_, _, _], _ => rfl⟩
  · obtain ⟨_, _, _, _, _, _, _, _, _, _, _, _, rfl, _⟩ := h
    rfl
  · obtain ⟨O, Tt, S, wd, cas, cars, has, rows, h, r0, N, ns, rfl, hP, hrest⟩ := h
    refine ⟨_, (pss_one (ps_expr (pe_mth D PC.cl hr pass0 (pv 0) (pa_cons (pv 1) (pa_cons (pv 2) pa_nil))))), ?_⟩
    obtain ⟨dx, eO⟩ := hP.ob
    exact ⟨_, rfl, O, dx, _, rfl, eO, pf_m (by simp), _, rfl, _, rfl, O, Tt, S, wd, cas, cars, has, rows, h, r0, N, ns, rfl, hP, hrest⟩
end
end Oc
-- L4
set_option Elab.async false
set_option linter.all false
set_option maxRecDepth 100000
set_option maxHeartbeats 4000000
/-! _law_same, a def that calls itself: it answers True of alike data. -/
namespace Oc
open PySem PySem.Spec PyProof.Rows L2
/-- alike: the same int or text, or two lists or tuples of one length whose items are in R -/
inductive Alike (R : V → V → Hp → Prop) (H : Hp) : V → V → Prop
  | int (i : Int) : Alike R H (.int i) (.int i)
  | str (x : Str) : Alike R H (.str x) (.str x)
  | lst {a b : Addr} {xs ys : List V} (ha : H a = some (.lst xs)) (hb : H b = some (.lst ys)) (hl : xs.length = ys.length) (hz : xs.length ≤ 1000) (h : ∀ (i : Nat) u v, xs[i]? = some u → ys[i]? = some v → R u v H) : Alike R H (.ref a) (.ref b)
  | tup {a b : Addr} {xs ys : List V} (ha : H a = some (.tup xs)) (hb : H b = some (.tup ys)) (hl : xs.length = ys.length) (hz : xs.length ≤ 1000) (h : ∀ (i : Nat) u v, xs[i]? = some u → ys[i]? = some v → R u v H) : Alike R H (.ref a) (.ref b)
def AlikeN : Nat → V → V → Hp → Prop
  | 0, _, _, _ => False
  | n + 1, x, y, H => Alike (AlikeN n) H x y
def spSame (n : Nat) : Sp := fun vs H Q _ => ∃ x y, vs = [x, y] ∧ AlikeN n x y H ∧ Q (.bl true) H
theorem scSame : FnScope ["_law_told", "_law_due", "_law_k"] ["_law_told", "_law_due"] (defScope sSame) := ⟨rfl, rfl, rfl, by decide +kernel, rfl, by decide +kernel, by decide +kernel⟩
section
variable {P : Program} {w : World} {K : PySem.W.Frag} {mg : Str → Option Value} {base : Heap}
theorem d_same0 {f : Addr} {fd : FuncData} (F : Fun K "_law_same" "_law_same" sSame f fd) (g : mg "_law_same" = some (.ref f)) : DefAt P w K mg base CX0 0 "_law_same" ["_law_told", "_law_due"] (spSame 0) :=
  ⟨f, fd, ⟨fun vs H Q E h => let ⟨_, _, _, z, _⟩ := h; z.elim, fun A outer s H args us vs Q E _ _ _ _ h => let ⟨_, _, _, z, _⟩ := h; z.elim⟩, g, F.kp, F.binds fun _ _ _ _ _ _ us hl => match us, hl with | [_, _], _ => rfl⟩
theorem d_sameS {f : Addr} {fd : FuncData} {n : Nat} (F : Fun K "_law_same" "_law_same" sSame f fd) (g : mg "_law_same" = some (.ref f)) (T : Txt K mg) (D : DefAt P w K mg base CX0 n "_law_same" ["_law_told", "_law_due"] (spSame n)) : DefAt P w K mg base CX0 (n + 1) "_law_same" ["_law_told", "_law_due"] (spSame (n + 1)) := by
  have nd := scSame.nd
  refine ⟨f, fd, F.ok scSame (fun vs H Q E h => ?_) (fun cdv A outer s H vs Q E hr h => ?_), g, F.kp, F.binds fun _ _ _ _ _ _ us hl => match us, hl with | [_, _], _ => rfl⟩
  · obtain ⟨_, _, rfl, _⟩ := h
    rfl
  · obtain ⟨x, y, rfl, hA, k⟩ := h
    refine ⟨_, (pss_cons (ps_if (pt_cmpR op_isN (pv 1) pe_non (nomark _))
        (pss_one (ps_ret (pe_cmpR op_isN (pv 0) pe_non (nomark _))))
        pss_nil)
      (pss_cons (ps_if (pt_cmpR op_isV (pv 1) pe_bl (nomark _))
        (pss_one (ps_ret (pe_cmpR op_isV (pv 0) pe_bl (nomark _))))
        pss_nil)
      (pss_cons (ps_if (pt_cmpR op_isV (pv 1) pe_bl (nomark _))
        (pss_one (ps_ret (pe_cmpR op_isV (pv 0) pe_bl (nomark _))))
        pss_nil)
      (pss_cons (ps_if (pt_val (pe_callB call_isi (by rfl) T.isinst (by decide +kernel) (pa_cons (pv 1) (pa_cons (pe_bltn (v := .ty "int") (by rfl) T.int (by decide +kernel) rfl) pa_nil))))
        (pss_one (ps_ret (pe_and (pe_callB call_isi (by rfl) T.isinst (by decide +kernel) (pa_cons (pv 0) (pa_cons (pe_bltn (v := .ty "int") (by rfl) T.int (by decide +kernel) rfl) pa_nil))) (pe_and (pe_not (pe_callB call_isi (by rfl) T.isinst (by decide +kernel) (pa_cons (pv 0) (pa_cons (pe_bltn (v := .ty "bool") (by rfl) T.bool (by decide +kernel) rfl) pa_nil)))) (pe_one (pe_cmpR op_eq (pv 0) (pv 1) (nomark _)))))))
        pss_nil)
      (pss_cons (ps_if (pt_val (pe_callB call_isi (by rfl) T.isinst (by decide +kernel) (pa_cons (pv 1) (pa_cons (pe_bltn (v := .ty "str") (by rfl) T.str (by decide +kernel) rfl) pa_nil))))
        (pss_one (ps_ret (pe_and (pe_callB call_isi (by rfl) T.isinst (by decide +kernel) (pa_cons (pv 0) (pa_cons (pe_bltn (v := .ty "str") (by rfl) T.str (by decide +kernel) rfl) pa_nil))) (pe_one (pe_cmpR op_eq (pv 0) (pv 1) (nomark _))))))
        pss_nil)
      (pss_cons (ps_if (PW.pt (pw_and (pt_val (pe_callB call_isi (by rfl) T.isinst (by decide +kernel) (pa_cons (pv 1) (pa_cons (pe_bltn (v := .ty "tuple") (by rfl) T.tuple (by decide +kernel) rfl) pa_nil)))) (pw_and1 (pt_not (pt_val (pe_callB call_isi (by rfl) T.isinst (by decide +kernel) (pa_cons (pv 0) (pa_cons (pe_bltn (v := .ty "tuple") (by rfl) T.tuple (by decide +kernel) rfl) pa_nil))))))))
        (pss_one (ps_ret pe_bl))
        pss_nil)
      (pss_cons (ps_if (PW.pt (pw_and (pt_val (pe_callB call_isi (by rfl) T.isinst (by decide +kernel) (pa_cons (pv 1) (pa_cons (pe_bltn (v := .ty "list") (by rfl) T.list (by decide +kernel) rfl) pa_nil)))) (pw_and1 (pt_not (pt_val (pe_callB call_isi (by rfl) T.isinst (by decide +kernel) (pa_cons (pv 0) (pa_cons (pe_bltn (v := .ty "list") (by rfl) T.list (by decide +kernel) rfl) pa_nil))))))))
        (pss_one (ps_ret pe_bl))
        pss_nil)
      (pss_cons (ps_if (pt_cmpR op_ne (pe_callB call_len_seq (by rfl) T.len PySem.boot_len (pa_cons (pv 0) pa_nil)) (pe_callB call_len_seq (by rfl) T.len PySem.boot_len (pa_cons (pv 1) pa_nil)) (nomark _))
        (pss_one (ps_ret pe_bl))
        pss_nil)
      (pss_cons (ps_for PassesOwn.never rfl (pi_range1 rfl T.range (pa_cons (pe_callB call_len_seq (by rfl) T.len PySem.boot_len (pa_cons (pv 1) pa_nil)) pa_nil)) (pg_name (i := 2) nd rfl (.inl rfl))
        (pss_one (ps_if (pt_not (pt_val (pe_def D hr pass0 (pa_cons (pe_ix ix_seq (pv 0) (pv 2) (fun _ _ => rfl)) (pa_cons (pe_ix ix_seq (pv 1) (pv 2) (fun _ _ => rfl)) pa_nil)))))
          (pss_one (ps_ret pe_bl))
          pss_nil)))
      (pss_one (ps_ret pe_bl))))))))))), ?_⟩
    have ii : PySem.W.kitOne K (.type "int") (.type "int") = some true := kit_ty rfl
    have ib : PySem.W.kitOne K (.type "int") (.type "bool") = some false := kit_ty rfl
    cases hA with
    | int i =>
      refine ⟨_, rfl, rfl, _, rfl, ifdn (by intro q; cases q) ?_⟩
      refine ⟨_, rfl, true, rfl, _, rfl, ifdn (by intro q; cases q) ?_⟩
      refine ⟨_, rfl, false, rfl, _, rfl, ifdn (by intro q; cases q) ?_⟩
      refine ⟨_, rfl, _, _, _, _, _, rfl, .ty _, .base (.int i), ii, _, rfl, iteT ?_⟩
      refine ⟨_, rfl, _, _, _, _, _, rfl, .ty _, .base (.int i), ii, _, rfl, iteT ?_⟩
      refine ⟨_, rfl, _, _, _, _, _, rfl, .ty _, .base (.int i), ib, _, rfl, _, rfl, iteT ?_⟩
      refine ⟨_, rfl, _, rfl, rfl, ?_⟩
      rw [decide_eq_true rfl]
      exact k
    | str z =>
      refine ⟨_, rfl, rfl, _, rfl, ifdn (by intro q; cases q) ?_⟩
      refine ⟨_, rfl, true, rfl, _, rfl, ifdn (by intro q; cases q) ?_⟩
      refine ⟨_, rfl, false, rfl, _, rfl, ifdn (by intro q; cases q) ?_⟩
      refine ⟨_, rfl, _, _, _, _, _, rfl, .ty _, .base (.str z), (kit_ty rfl : PySem.W.kitOne K (.type "str") (.type "int") = some false), _, rfl, iteF ?_⟩
      refine ⟨_, rfl, _, _, _, _, _, rfl, .ty _, .base (.str z), (kit_ty rfl : PySem.W.kitOne K (.type "str") (.type "str") = some true), _, rfl, iteT ?_⟩
      refine ⟨_, rfl, _, _, _, _, _, rfl, .ty _, .base (.str z), (kit_ty rfl : PySem.W.kitOne K (.type "str") (.type "str") = some true), _, rfl, iteT ?_⟩
      refine ⟨_, rfl, _, rfl, rfl, ?_⟩
      rw [decide_eq_true rfl]
      exact k
    | @lst a b xs ys ha hb hl hz h =>
      refine ⟨_, rfl, rfl, _, rfl, ifdn (by intro q; cases q) ?_⟩
      refine ⟨_, rfl, true, rfl, _, rfl, ifdn (by intro q; cases q) ?_⟩
      refine ⟨_, rfl, false, rfl, _, rfl, ifdn (by intro q; cases q) ?_⟩
      refine ⟨_, rfl, _, _, _, _, _, rfl, .ty _, .base (.lst hb), (kit_ty rfl : PySem.W.kitOne K (.type "list") (.type "int") = some false), _, rfl, iteF ?_⟩
      refine ⟨_, rfl, _, _, _, _, _, rfl, .ty _, .base (.lst hb), (kit_ty rfl : PySem.W.kitOne K (.type "list") (.type "str") = some false), _, rfl, iteF ?_⟩
      refine ⟨_, rfl, _, _, _, _, _, rfl, .ty _, .base (.lst hb), (kit_ty rfl : PySem.W.kitOne K (.type "list") (.type "tuple") = some false), _, rfl, iteF (iteF ?_)⟩
      refine ⟨_, rfl, _, _, _, _, _, rfl, .ty _, .base (.lst hb), (kit_ty rfl : PySem.W.kitOne K (.type "list") (.type "list") = some true), _, rfl, iteT ⟨_, rfl, _, _, _, _, _, rfl, .ty _, .base (.lst ha), (kit_ty rfl : PySem.W.kitOne K (.type "list") (.type "list") = some true), _, rfl, ?_⟩⟩
      refine iteF ?_
      refine ⟨_, rfl, a, _, rfl, .inl (SqL.of ha), _, rfl, b, _, rfl, .inl (SqL.of hb), rfl, _, rfl, iteNS (by rw [hl]) ?_⟩
      refine ⟨_, rfl, b, _, rfl, .inl (SqL.of hb), ys.length, rfl, by omega, by omega, for_range (lo := 0) (n := ys.length) (fun i σ H' => ∃ v2, σ = [some (.ref a), some (.ref b), v2] ∧ H' = H) ⟨none, rfl, rfl⟩ ?_ ?_⟩
      · rintro i σ H' hi ⟨v2, rfl, rfl⟩
        have hxi : xs[i]? = some xs[i] := List.getElem?_eq_getElem (by omega)
        have hyi : ys[i]? = some ys[i] := List.getElem?_eq_getElem hi
        refine ⟨_, rfl, _, rfl, .inl ⟨a, _, _, _, rfl, rfl, SqL.of ha, (by rw [Int.zero_add]; exact atI_nat (j := i) hxi), _, rfl, _, rfl, .inl ⟨b, _, _, _, rfl, rfl, SqL.of hb, (by rw [Int.zero_add]; exact atI_nat (j := i) hyi), ?_⟩⟩⟩
        exact ⟨_, _, rfl, h i _ _ hxi hyi, _, rfl, iteF ⟨_, rfl, rfl⟩⟩
      · rintro σ H' ⟨v2, rfl, rfl⟩
        exact k
    | @tup a b xs ys ha hb hl hz h =>
      refine ⟨_, rfl, rfl, _, rfl, ifdn (by intro q; cases q) ?_⟩
      refine ⟨_, rfl, true, rfl, _, rfl, ifdn (by intro q; cases q) ?_⟩
      refine ⟨_, rfl, false, rfl, _, rfl, ifdn (by intro q; cases q) ?_⟩
      refine ⟨_, rfl, _, _, _, _, _, rfl, .ty _, .base (.tup hb), (kit_ty rfl : PySem.W.kitOne K (.type "tuple") (.type "int") = some false), _, rfl, iteF ?_⟩
      refine ⟨_, rfl, _, _, _, _, _, rfl, .ty _, .base (.tup hb), (kit_ty rfl : PySem.W.kitOne K (.type "tuple") (.type "str") = some false), _, rfl, iteF ?_⟩
      refine ⟨_, rfl, _, _, _, _, _, rfl, .ty _, .base (.tup hb), (kit_ty rfl : PySem.W.kitOne K (.type "tuple") (.type "tuple") = some true), _, rfl, iteT ⟨_, rfl, _, _, _, _, _, rfl, .ty _, .base (.tup ha), (kit_ty rfl : PySem.W.kitOne K (.type "tuple") (.type "tuple") = some true), _, rfl, ?_⟩⟩
      refine iteF ?_
      refine ⟨_, rfl, _, _, _, _, _, rfl, .ty _, .base (.tup hb), (kit_ty rfl : PySem.W.kitOne K (.type "tuple") (.type "list") = some false), _, rfl, iteF (iteF ?_)⟩
      refine ⟨_, rfl, a, _, rfl, .inr (SqT.of ha), _, rfl, b, _, rfl, .inr (SqT.of hb), rfl, _, rfl, iteNS (by rw [hl]) ?_⟩
      refine ⟨_, rfl, b, _, rfl, .inr (SqT.of hb), ys.length, rfl, by omega, by omega, for_range (lo := 0) (n := ys.length) (fun i σ H' => ∃ v2, σ = [some (.ref a), some (.ref b), v2] ∧ H' = H) ⟨none, rfl, rfl⟩ ?_ ?_⟩
      · rintro i σ H' hi ⟨v2, rfl, rfl⟩
        have hxi : xs[i]? = some xs[i] := List.getElem?_eq_getElem (by omega)
        have hyi : ys[i]? = some ys[i] := List.getElem?_eq_getElem hi
        refine ⟨_, rfl, _, rfl, .inr (.inl ⟨a, _, _, _, rfl, rfl, SqT.of ha, (by rw [Int.zero_add]; exact atI_nat (j := i) hxi), _, rfl, _, rfl, .inr (.inl ⟨b, _, _, _, rfl, rfl, SqT.of hb, (by rw [Int.zero_add]; exact atI_nat (j := i) hyi), ?_⟩)⟩)⟩
        exact ⟨_, _, rfl, h i _ _ hxi hyi, _, rfl, iteF ⟨_, rfl, rfl⟩⟩
      · rintro σ H' ⟨v2, rfl, rfl⟩
        exact k
end
end Oc
-- M3
set_option Elab.async false
set_option linter.all false
set_option maxHeartbeats 4000000
/-! Plain mathematics: plans that are allowed. -/
namespace Oc
open PySem L2
/-- rows that are a plan so far -/
structure PartOk (wd : Nat) (cars : List Car) (rows : Rows) : Prop where
  asc : ∀ r ∈ rows, r.Pairwise (· < ·)
  wid : ∀ r ∈ rows, r.length ≤ wd
  win : ∀ h r, rows[h]? = some r → ∀ k ∈ r, ∃ c : Car, cars[k]? = some c ∧ c.1 ≤ h ∧ h < c.1 + c.2.1
  need : ∀ k (c : Car), cars[k]? = some c → gotN rows k ≤ c.2.2
structure PlanOk (wd : Nat) (cars : List Car) (rows : Rows) : Prop where
  n : rows.length = hoursOf cars
  ok : PartOk wd cars rows
theorem PartOk.nil {wd : Nat} {cars : List Car} : PartOk wd cars [] := ⟨fun r h => (by cases h), fun r h => (by cases h), fun h r e => (by simp at e), fun k c _ => Nat.zero_le _⟩
/-- a row that is made for the hour h, over the other rows; j: the numbers below j were asked -/
structure RowOk (wd : Nat) (cars : List Car) (others : Rows) (h j : Nat) (r : List Nat) : Prop where
  asc : r.Pairwise (· < ·)
  lt : ∀ k ∈ r, k < j
  wid : r.length ≤ wd
  win : ∀ k ∈ r, ∃ c : Car, cars[k]? = some c ∧ c.1 ≤ h ∧ h < c.1 + c.2.1 ∧ gotN others k < c.2.2
theorem RowOk.nil {wd : Nat} {cars : List Car} {others : Rows} {h : Nat} : RowOk wd cars others h 0 [] := ⟨.nil, fun k h => (by cases h), Nat.zero_le _, fun k h => (by cases h)⟩
theorem RowOk.skip {wd : Nat} {cars : List Car} {others : Rows} {h j : Nat} {r : List Nat} (R : RowOk wd cars others h j r) : RowOk wd cars others h (j + 1) r := ⟨R.asc, fun k hk => Nat.lt_succ_of_lt (R.lt k hk), R.wid, R.win⟩
theorem RowOk.add {wd : Nat} {cars : List Car} {others : Rows} {h j : Nat} {r : List Nat} {c : Car} (R : RowOk wd cars others h j r) (hc : cars[j]? = some c) (hw : c.1 ≤ h ∧ h < c.1 + c.2.1) (hn : gotN others j < c.2.2) (hl : r.length < wd) : RowOk wd cars others h (j + 1) (r ++ [j]) := by
  refine ⟨List.pairwise_append.mpr ⟨R.asc, List.pairwise_singleton _ _, fun a ha b hb => ?_⟩, fun k hk => ?_, by rw [List.length_append]; simp; omega, fun k hk => ?_⟩
  · rw [List.mem_singleton.mp hb]
    exact R.lt a ha
  · rcases List.mem_append.mp hk with q | q
    · exact Nat.lt_succ_of_lt (R.lt k q)
    · rw [List.mem_singleton.mp q]; exact Nat.lt_succ_self _
  · rcases List.mem_append.mp hk with q | q
    · exact R.win k q
    · rw [List.mem_singleton.mp q]
      exact ⟨c, hc, hw.1, hw.2, hn⟩
theorem PartOk.snoc {wd : Nat} {cars : List Car} {rows : Rows} {n : Nat} {r : List Nat} (B : PartOk wd cars rows) (R : RowOk wd cars rows rows.length n r) : PartOk wd cars (rows ++ [r]) := by
  refine ⟨fun q hq => ?_, fun q hq => ?_, fun h q e k hk => ?_, fun k c hc => ?_⟩
  · rcases List.mem_append.mp hq with z | z
    · exact B.asc q z
    · rw [List.mem_singleton.mp z]; exact R.asc
  · rcases List.mem_append.mp hq with z | z
    · exact B.wid q z
    · rw [List.mem_singleton.mp z]; exact R.wid
  · by_cases hh : h < rows.length
    · rw [List.getElem?_append_left hh] at e
      exact B.win h q e k hk
    · rw [List.getElem?_append_right (by omega)] at e
      cases hz : h - rows.length with
      | zero =>
        rw [hz] at e
        have e' : r = q := Option.some.inj e
        subst e'
        obtain ⟨c, h1, h2, h3, _⟩ := R.win k hk
        exact ⟨c, h1, by omega, by omega⟩
      | succ z => rw [hz] at e; simp at e
  · rw [gotN_append, gotN_one]
    by_cases hk : k ∈ r
    · rw [if_pos hk]
      obtain ⟨c', h1, _, _, h2⟩ := R.win k hk
      rw [hc] at h1
      cases h1
      omega
    · rw [if_neg hk]
      exact B.need k c hc
/-- a row is set anew -/
theorem PlanOk.set {wd : Nat} {cars : List Car} {rows : Rows} {h : Nat} {r0 r : List Nat} (B : PlanOk wd cars rows) (hr : rows[h]? = some r0) (asc : r.Pairwise (· < ·)) (wid : r.length ≤ wd)
    (win : ∀ k ∈ r, ∃ c : Car, cars[k]? = some c ∧ c.1 ≤ h ∧ h < c.1 + c.2.1 ∧ gotN (rows.set h []) k < c.2.2) : PlanOk wd cars (rows.set h r) := by
  refine ⟨by rw [List.length_set]; exact B.n, fun q hq => ?_, fun q hq => ?_, fun h' q e k hk => ?_, fun k c hc => ?_⟩
  · rcases List.mem_or_eq_of_mem_set hq with z | z
    · exact B.ok.asc q z
    · rw [z]; exact asc
  · rcases List.mem_or_eq_of_mem_set hq with z | z
    · exact B.ok.wid q z
    · rw [z]; exact wid
  · by_cases hh : h = h'
    · subst hh
      rw [List.getElem?_set_self (List.getElem?_eq_some_iff.mp hr).1] at e
      cases e
      obtain ⟨c, h1, h2, h3, _⟩ := win k hk
      exact ⟨c, h1, h2, h3⟩
    · rw [List.getElem?_set_ne hh] at e
      exact B.ok.win h' q e k hk
  · have e1 := gotN_set hr [] k
    have e2 := gotN_set hr r k
    rw [if_neg (by simp : ¬ k ∈ ([] : List Nat))] at e1
    by_cases hk : k ∈ r
    · rw [if_pos hk] at e2
      obtain ⟨c', h1, _, _, h2⟩ := win k hk
      rw [hc] at h1
      cases h1
      omega
    · rw [if_neg hk] at e2
      have := B.ok.need k c hc
      omega
theorem PlanOk.mem {wd : Nat} {cars : List Car} {rows : Rows} (B : PlanOk wd cars rows) : ∀ r ∈ rows, ∀ k ∈ r, k < cars.length := fun r hr k hk => by
  obtain ⟨h, hh, e⟩ := List.getElem_of_mem hr
  obtain ⟨c, hc, _⟩ := B.ok.win h r (by rw [List.getElem?_eq_getElem hh, e]) k hk
  exact (List.getElem?_eq_some_iff.mp hc).1
theorem nodup_of_lt {r : List Nat} (h : r.Pairwise (· < ·)) : r.Nodup := h.imp fun {a b} q e => by omega
/-- sorted, each once: there is one such list of the same members -/
theorem sorted_eq : ∀ {a b : List Nat}, a.Pairwise (· < ·) → b.Pairwise (· < ·) → (∀ k, k ∈ a ↔ k ∈ b) → a = b
  | [], [], _, _, _ => rfl
  | [], y :: b, _, _, h => by have := (h y).mpr List.mem_cons_self; cases this
  | x :: a, [], _, _, h => by have := (h x).mp List.mem_cons_self; cases this
  | x :: a, y :: b, ha, hb, h => by
    rw [List.pairwise_cons] at ha hb
    have hxy : x = y := by
      rcases List.mem_cons.mp ((h x).mp List.mem_cons_self) with e | e
      · exact e
      · rcases List.mem_cons.mp ((h y).mpr List.mem_cons_self) with e2 | e2
        · exact e2.symm
        · have := hb.1 x e
          have := ha.1 y e2
          omega
    subst hxy
    rw [sorted_eq ha.2 hb.2 fun k => ⟨fun hk => ?_, fun hk => ?_⟩]
    · rcases List.mem_cons.mp ((h k).mp (List.mem_cons_of_mem _ hk)) with e | e
      · have := ha.1 k hk
        omega
      · exact e
    · rcases List.mem_cons.mp ((h k).mpr (List.mem_cons_of_mem _ hk)) with e | e
      · have := hb.1 k hk
        omega
      · exact e
/-- sorted of a list without doubles is that list of its members, rising -/
theorem sorted_filter {n : Nat} {ns ns' : List Nat} (hp : ns'.Perm ns) (ho : ns'.Pairwise (· ≤ ·)) (hn : ns.Nodup) (hl : ∀ k ∈ ns, k < n) : ns' = (List.range n).filter fun k => decide (k ∈ ns) := by
  have hn' : ns'.Nodup := hp.nodup_iff.mpr hn
  refine sorted_eq ?_ ((List.pairwise_lt_range).filter _) fun k => ?_
  · exact (ho.and hn').imp fun {a b} q => by have := q.1; have := q.2; omega
  · rw [hp.mem_iff, List.mem_filter, List.mem_range, decide_eq_true_eq]
    exact ⟨fun h => ⟨hl k h, h⟩, fun h => h.2⟩
end Oc
-- L5
set_option Elab.async false
set_option linter.all false
set_option maxRecDepth 100000
set_option maxHeartbeats 4000000
/-! _law_some_plan, _law_picked. -/
namespace Oc
open PySem PySem.Spec PyProof.Rows L2
theorem z0 (i : Nat) : V.int (0 + (i : Int)) = iv i := by rw [Int.zero_add]
theorem CarsL.ne {H : Hp} {L p : Addr} {cas : List Addr} {cars : List Car} (h : CarsL H L cas cars) (hp : PoolAt H p) : L ≠ p := fun e => by
  obtain ⟨x, y, z, q⟩ := hp
  rw [← e, h.1] at q
  have q2 := HO.lst.inj (Option.some.inj q)
  cases cas with
  | nil => cases q2
  | cons a r => cases q2
theorem CarsL.len {H : Hp} {L : Addr} {cas : List Addr} {cars : List Car} (h : CarsL H L cas cars) : (refs cas).length = cars.length := by rw [List.length_map, h.2.1, List.length_map]
theorem CarsL.car {H : Hp} {L : Addr} {cas : List Addr} {cars : List Car} (h : CarsL H L cas cars) {i : Nat} {c : Car} (e : cars[i]? = some c) : ∃ a, cas[i]? = some a ∧ H a = some (carO c) := h.2.at (map_ix e)
theorem RowsL.len {H : Hp} {R : Addr} {ras : List Addr} {rows : Rows} (h : RowsL H R ras rows) : (refs ras).length = rows.length := by rw [List.length_map, h.2.1, List.length_map]
theorem RowsL.row {H : Hp} {R : Addr} {ras : List Addr} {rows : Rows} (h : RowsL H R ras rows) {i : Nat} {r : List Nat} (e : rows[i]? = some r) : ∃ a, ras[i]? = some a ∧ H a = some (rowO r) := h.2.at (map_ix e)
theorem RowsL.neR {H : Hp} {R : Addr} {ras : List Addr} {rows : Rows} (h : RowsL H R ras rows) : ∀ a ∈ ras, a ≠ R := fun a ha e => by
  obtain ⟨i, hi, rfl⟩ := List.getElem_of_mem ha
  obtain ⟨o, ho, q⟩ := h.2.of (List.getElem?_eq_getElem hi)
  obtain ⟨r, _, rfl⟩ := ix_map ho
  rw [e, h.1] at q
  have q2 := HO.lst.inj (Option.some.inj q)
  cases ras with
  | nil => cases ha
  | cons a rs => cases r with
    | nil => cases q2
    | cons b r => cases q2
theorem rowO_snoc (r : List Nat) (j : Nat) : rowO (r ++ [j]) = .lst (r.map iv ++ [iv j]) := by
  show HO.lst ((r ++ [j]).map iv) = _
  rw [List.map_append]
  rfl
theorem ifl {c A B : Prop} [Decidable c] (h : c → A) (h' : ¬ c → B) : if decide c = true then A else B := by
  by_cases hc : c
  · rw [if_pos (decide_eq_true hc)]; exact h hc
  · rw [if_neg (fun q => hc (of_decide_eq_true q))]; exact h' hc
section
variable {P : Program} {w : World} {K : PySem.W.Frag} {mg : Str → Option Value} {base : Heap}
abbrev DHours (P : Program) (w : World) (K : PySem.W.Frag) (mg : Str → Option Value) (base : Heap) : Prop := DefAt P w K mg base CX0 1 "_law_hours" ["_law_cars"] spHours
abbrev DThere (P : Program) (w : World) (K : PySem.W.Frag) (mg : Str → Option Value) (base : Heap) : Prop := DefAt P w K mg base CX0 1 "_law_there" ["_law_car", "_law_hour"] spThere
abbrev DGotL (P : Program) (w : World) (K : PySem.W.Frag) (mg : Str → Option Value) (base : Heap) : Prop := DefAt P w K mg base CX0 1 "_law_got" ["_law_rows", "_law_number"] spGotL
/-! ### _law_some_plan -/
def spSomePlan : Sp := fun vs H Q _ => ∃ (p : Addr) (wd : Nat) (L : Addr) (cas : List Addr) (cars : List Car), vs = [.ref p, iv wd, .ref L] ∧ PoolAt H p ∧ CarsL H L cas cars ∧ wd ≤ 60 ∧ cars.length ≤ 14 ∧ (∀ c ∈ cars, CarOk c) ∧
  ∀ H' R ras rows, PlanOk wd cars rows → Frm [p] H H' → RowsL H' R ras rows → H R = none → (∀ a ∈ ras, H a = none) → Q (.ref R) H'
theorem scSomePlan : FnScope ["_law_pool_here", "_law_width", "_law_cars", "_law_thick", "_law_rows", "_law_hour", "_law_row", "_law_number", "_law_free"] ["_law_pool_here", "_law_width", "_law_cars"] (defScope sSomePlan) := ⟨rfl, rfl, rfl, by decide +kernel, rfl, by decide +kernel, by decide +kernel⟩
theorem d_someplan {f : Addr} {fd : FuncData} (F : Fun K "_law_some_plan" "_law_some_plan" sSomePlan f fd) (g : mg "_law_some_plan" = some (.ref f)) (T : Txt K mg) (D : DTake P w K mg base) (DH : DHours P w K mg base) (DT : DThere P w K mg base) (DG : DGotL P w K mg base) :
    DefAt P w K mg base CX0 2 "_law_some_plan" ["_law_pool_here", "_law_width", "_law_cars"] spSomePlan := by
  have nd := scSomePlan.nd
  refine ⟨f, fd, F.ok scSomePlan (fun vs H Q E h => ?_) (fun cdv A outer s H vs Q E hr h => ?_), g, F.kp, F.binds fun _ _ _ _ _ _ us hl => match us, hl with | [_, _, _], _ => rfl⟩
  · obtain ⟨_, _, _, _, _, rfl, _⟩ := h
    rfl
  · obtain ⟨p, wd, L, cas, cars, rfl, hp, hC, w60, hl, hok, k⟩ := h
    refine ⟨_, (pss_cons (ps_set (i := 3) nd rfl (.inl rfl) (pe_ix ix_list (pe_lst (pa_cons pe_int (pa_cons pe_int (pa_cons pe_int (pa_cons pe_int pa_nil))))) (pe_def D hr pass0 (pa_cons (pv 0) (pa_cons pe_int pa_nil))) (fun _ _ => rfl)))
      (pss_cons (ps_set (i := 4) nd rfl (.inl rfl) (pe_lst pa_nil))
      (pss_cons (ps_for PassesOwn.never rfl (pi_range1 rfl T.range (pa_cons (pe_def DH hr pass0 (pa_cons (pv 2) pa_nil)) pa_nil)) (pg_name (i := 5) nd rfl (.inl rfl))
        (pss_cons (ps_set (i := 6) nd rfl (.inl rfl) (pe_lst pa_nil))
        (pss_cons (ps_for PassesOwn.never rfl (pi_range1 rfl T.range (pa_cons (pe_callB call_len_seq (by rfl) T.len PySem.boot_len (pa_cons (pv 2) pa_nil)) pa_nil)) (pg_name (i := 7) nd rfl (.inl rfl))
          (pss_cons (ps_set (i := 8) nd rfl (.inl rfl) (pe_and (pe_def DT hr pass0 (pa_cons (pe_ix ix_list (pv 2) (pv 7) (fun _ _ => rfl)) (pa_cons (pv 5) pa_nil))) (pe_one (pe_cmpR op_lt (pe_def DG hr pass0 (pa_cons (pv 4) (pa_cons (pv 7) pa_nil))) (pe_ix ix_tup (pe_ix ix_list (pv 2) (pv 7) (fun _ _ => rfl)) pe_int (fun _ _ => rfl)) (nomark _)))))
          (pss_one (ps_if (PW.pt (pw_and (pt_val (pv 8)) (pw_and (pt_cmpR op_lt (pe_callB call_len_seq (by rfl) T.len PySem.boot_len (pa_cons (pv 6) pa_nil)) (pv 1) (nomark _)) (pw_and1 (pt_cmpR op_gt (pe_def D hr pass0 (pa_cons (pv 0) (pa_cons (pv 3) pa_nil))) pe_int (nomark _))))))
            (pss_one (ps_expr (pe_bm PySem.F.plainAttrs_list PySem.F.slot_list_append PySem.F.type_list_append mt_append (pv 6) (pa_cons (pv 7) pa_nil))))
            pss_nil))))
        (pss_one (ps_expr (pe_bm PySem.F.plainAttrs_list PySem.F.slot_list_append PySem.F.type_list_append mt_append (pv 4) (pa_cons (pv 6) pa_nil)))))))
      (pss_one (ps_ret (pv 4)))))), ?_⟩
    have nLp := hC.ne hp
    have h72 := hoursOf_72 hok
    refine ⟨(by show 4 ≤ sizeLine; decide), fun l1 hl1 => ?_⟩
    have f1 : Frm [p] H (upd H l1 (.lst [iv 1000, iv 9, iv 2, iv 3])) := Frm.new hl1
    refine ⟨_, rfl, p, 4, rfl, hp.frm (Frm.new (l := []) hl1) (by simp), by decide, by decide, fun H2 d2 hd2 f2 hp2 => ?_⟩
    obtain ⟨th, e2, m2⟩ := four (a := 1000) (b := 9) (c := 2) (d := 3) hd2
    have b2 : 1 ≤ th ∧ th ≤ 1000 := by
      simp at m2
      omega
    refine ⟨l1, _, _, _, rfl, rfl, SqL.of (f2.at upd_same (not1 (hp.ne hl1))), atI_nat e2, ?_⟩
    refine ⟨Nat.zero_le _, fun R hR => ?_⟩
    have f3 : Frm [p] H (upd H2 R (.lst [])) := (f1.trans f2).trans (Frm.new hR)
    have hRH : H R = none := (f1.trans f2).free hR
    have nRp : R ≠ p := hp.ne hRH
    refine ⟨_, rfl, L, cas, cars, rfl, hC.frm f3 (not1 nLp), hoursOf cars, rfl, by omega, by omega, for_range (lo := 0) (n := hoursOf cars) (fun i σ H' => ∃ v5 v6 v7 v8 ras rows, σ = [some (.ref p), some (iv wd), some (.ref L), some (iv th), some (.ref R), v5, v6, v7, v8] ∧
      Frm [p] H H' ∧ PoolAt H' p ∧ RowsL H' R ras rows ∧ (∀ a ∈ ras, H a = none) ∧ rows.length = i ∧ PartOk wd cars rows)
      ⟨none, none, none, none, [], [], rfl, f3, hp2.frm (Frm.new (l := []) hR) (by simp), ⟨upd_same, Objs.nil⟩, (fun a ha => by cases ha), rfl, PartOk.nil⟩ ?_ ?_⟩
    · rintro i σ H' hi ⟨v5, v6, v7, v8, ras, rows, rfl, f4, hp4, hR4, nras, hrl, hok4⟩
      rw [z0]
      refine ⟨Nat.zero_le _, fun W hW => ?_⟩
      have hWH : H W = none := f4.free hW
      have nWp : W ≠ p := hp.ne hWH
      have nWR : W ≠ R := ne_new hR4.1 hW
      have rasp : ∀ a ∈ ras, a ≠ p := fun a ha => hp.ne (nras a ha)
      have rasW : ∀ a ∈ ras, a ≠ W := fun a ha e => hR4.2.free (H0 := H) hW (e ▸ ha)
      have hC4 := hC.frm (f4.trans (Frm.new hW) : Frm [p] H (upd H' W (.lst []))) (not1 nLp)
      refine ⟨_, rfl, L, _, rfl, .inl (SqL.of hC4.1), cars.length, (by rw [hC.len]), by omega, by omega, for_range (lo := 0) (n := cars.length) (fun j σ H5 => ∃ v7 v8 r, σ = [some (.ref p), some (iv wd), some (.ref L), some (iv th), some (.ref R), some (iv i), some (.ref W), v7, v8] ∧
        Frm [p] H H5 ∧ PoolAt H5 p ∧ RowsL H5 R ras rows ∧ H5 W = some (rowO r) ∧ RowOk wd cars rows rows.length j r)
        ⟨v7, v8, [], rfl, f4.trans (Frm.new hW), hp4.frm (Frm.new (l := []) hW) (by simp), hR4.frm (Frm.new (l := []) hW) (by simp) (by simp), upd_same, RowOk.nil⟩ ?_ ?_⟩
      · rintro j σ H5 hj ⟨v7, v8, r, rfl, f5, hp5, hR5, hW5, hok5⟩
        rw [z0]
        have hc : cars[j]? = some cars[j] := List.getElem?_eq_getElem hj
        generalize cars[j] = c at hc
        have hC5 := hC.frm f5 (not1 nLp)
        obtain ⟨a, ha, ea⟩ := hC5.car hc
        have hrlen := hok5.wid
        refine ⟨_, rfl, _, rfl, L, _, _, _, rfl, rfl, SqL.of hC5.1, atI_nat (map_ix ha), _, rfl, a, c, i, rfl, ea, _, rfl, ifl (fun hin => ?_) (fun hout => ?_)⟩
        · refine ⟨_, rfl, _, rfl, R, ras, rows, j, rfl, hR5, by omega, fun H6 f6 => ?_⟩
          have f56 : Frm [p] H H6 := f5.trans f6.nil
          have hC6 := hC5.frm f6 (by simp)
          have hp6 := hp5.frm f6 (by simp)
          have hR6 := hR5.frm f6 (by simp) (by simp)
          have hW6 := f6.at hW5 (by simp)
          obtain ⟨a', ha', ea'⟩ := hC6.car hc
          refine ⟨_, rfl, _, rfl, L, _, _, _, rfl, rfl, SqL.of hC6.1, atI_nat (map_ix ha'), a', _, 2, _, rfl, rfl, SqT.of ea', atI_nat (j := 2) rfl, _, _, rfl, rfl, ?_⟩
          refine ⟨_, rfl, _, rfl, ifl (fun hlt => ?_) (fun hge => ?_)⟩
          · refine ⟨_, rfl, W, _, rfl, .inl (SqL.of hW6), _, rfl, _, _, rfl, rfl, _, rfl, ifl (fun hw => ?_) (fun hw => ?_)⟩
            · rw [List.length_map] at hw
              refine ⟨_, rfl, _, rfl, p, th, rfl, hp6, by omega, by omega, fun H7 d7 hd7 f7 hp7 => ?_⟩
              have f67 : Frm [p] H H7 := f56.trans f7
              have hR7 := hR6.frm f7 (not1 nRp) (fun a ha => not1 (rasp a ha))
              have hW7 := f7.at hW6 (not1 nWp)
              refine ⟨_, _, rfl, rfl, _, rfl, ifl (fun _ => ?_) (fun _ => ?_)⟩
              · refine ⟨_, rfl, .inl ⟨rfl, _, SqL.of hW7⟩, _, rfl, W, _, _, rfl, rfl, hW7, small1000 (by rw [List.length_map]; omega), ?_⟩
                have fW : Frm [W] H7 (upd H7 W (.lst (r.map iv ++ [iv j]))) := Frm.set (List.mem_singleton.mpr rfl) hW7
                refine ⟨_, _, r ++ [j], rfl, f67.put hWH, hp7.frm fW (not1 nWp.symm), hR7.frm fW (not1 nWR.symm) (fun a ha => not1 (rasW a ha)), by rw [upd_same, rowO_snoc], hok5.add hc (by omega) (by omega) (by omega)⟩
              · exact ⟨_, _, r, rfl, f67, hp7, hR7, hW7, hok5.skip⟩
            · exact ⟨_, _, r, rfl, f56, hp6, hR6, hW6, hok5.skip⟩
          · exact ⟨_, _, r, rfl, f56, hp6, hR6, hW6, hok5.skip⟩
        · exact ⟨_, rfl, _, rfl, iteF (iteF ⟨_, _, r, rfl, f5, hp5, hR5, hW5, hok5.skip⟩)⟩
      · rintro σ H5 ⟨v7, v8, r, rfl, f5, hp5, hR5, hW5, hok5⟩
        refine ⟨_, rfl, .inl ⟨rfl, _, SqL.of hR5.1⟩, _, rfl, R, _, _, rfl, rfl, hR5.1, small1000 (by rw [hR5.len]; omega), ?_⟩
        have fR : Frm [R] H5 (upd H5 R (.lst (refs ras ++ [.ref W]))) := Frm.set (List.mem_singleton.mpr rfl) hR5.1
        refine ⟨_, _, _, _, ras ++ [W], rows ++ [r], rfl, f5.put hRH, hp5.frm fR (not1 nRp.symm), ⟨?_, ?_⟩, ?_, by rw [List.length_append]; simp; omega, hok4.snoc hok5⟩
        · rw [upd_same]
          show some (HO.lst (ras.map V.ref ++ [.ref W])) = some (.lst ((ras ++ [W]).map V.ref))
          rw [List.map_append]
          rfl
        · rw [List.map_append]
          refine Objs.snoc (hR5.2.imp fun a ha o ho e => ?_) (by rw [upd_ne nWR]; exact hW5)
          rw [upd_ne (hR5.neR a ha)]
          exact e
        · intro a ha
          rcases List.mem_append.mp ha with z | z
          · exact nras a z
          · rw [List.mem_singleton.mp z]; exact hWH
    · rintro σ H' ⟨v5, v6, v7, v8, ras, rows, rfl, f4, hp4, hR4, nras, hrl, hok4⟩
      exact ⟨_, rfl, k H' R ras rows ⟨hrl, hok4⟩ f4 hR4 hRH nras⟩
/-! ### _law_picked -/
theorem cutTo (xs : List V) (h : Nat) : cutV xs none (some (h : Int)) = xs.take h := by
  unfold cutV
  rw [HT.sIx_nat, HT.sIx_none, List.drop_zero, Nat.sub_zero]
  by_cases q : h ≤ xs.length
  · rw [Nat.min_eq_left q]
  · rw [Nat.min_eq_right (by omega), List.take_of_length_le (Nat.le_refl _), List.take_of_length_le (by omega)]
theorem cutFrom (xs : List V) (h : Nat) : cutV xs (some (h : Int)) none = xs.drop h := by
  unfold cutV
  rw [HT.sIx_nat, HT.sIx_none]
  by_cases q : h ≤ xs.length
  · rw [Nat.min_eq_left q, List.take_of_length_le (by rw [List.length_drop]; omega)]
  · rw [Nat.min_eq_right (by omega), List.drop_of_length_le (Nat.le_refl _), List.drop_of_length_le (by omega)]
    simp
theorem ins_perm (ns : List Nat) (i j : Nat) : (ns.take i ++ [j] ++ ns.drop i).Perm (j :: ns) := by
  have h := List.perm_middle (a := j) (l₁ := ns.take i) (l₂ := ns.drop i)
  rw [List.take_append_drop] at h
  rw [List.append_assoc]
  exact h
def spPicked : Sp := fun vs H Q _ => ∃ (p : Addr) (wd : Nat) (L : Addr) (cas : List Addr) (cars : List Car) (R : Addr) (ras : List Addr) (rows : Rows) (h : Nat) (r0 : List Nat), vs = [.ref p, iv wd, .ref L, .ref R, iv h] ∧ PoolAt H p ∧ CarsL H L cas cars ∧ RowsL H R ras rows ∧ R ≠ p ∧ (∀ a ∈ ras, a ≠ p) ∧ wd ≤ 60 ∧ cars.length ≤ 14 ∧ rows.length ≤ 72 ∧ rows[h]? = some r0 ∧
  ∀ H' W ns, ns.Nodup → ns.length ≤ wd → (∀ k ∈ ns, ∃ c : Car, cars[k]? = some c ∧ c.1 ≤ h ∧ h < c.1 + c.2.1 ∧ gotN (rows.set h []) k < c.2.2) → Frm [p] H H' → PoolAt H' p → H W = none → H' W = some (rowO ns) → Q (.ref W) H'
theorem scPicked : FnScope ["_law_pool_here", "_law_width", "_law_cars", "_law_rows", "_law_hour", "_law_others", "_law_picked_here", "_law_number"] ["_law_pool_here", "_law_width", "_law_cars", "_law_rows", "_law_hour"] (defScope sPicked) := ⟨rfl, rfl, rfl, by decide +kernel, rfl, by decide +kernel, by decide +kernel⟩
theorem gotN_but_set {rows : Rows} {h : Nat} {r : List Nat} (e : rows[h]? = some r) (k : Nat) : gotN (rows.take h ++ rows.drop (h + 1)) k = gotN (rows.set h []) k := by
  have e1 := gotN_but e k
  have e2 := gotN_set e [] k
  rw [if_neg (by simp : ¬ k ∈ ([] : List Nat))] at e2
  omega
/-- rows of a list without the row h -/
theorem RowsL.but {H : Hp} {R A : Addr} {ras : List Addr} {rows : Rows} {h : Nat} (hR : RowsL H R ras rows) (hA : H A = some (.lst (refs (ras.take h ++ ras.drop (h + 1))))) : RowsL H A (ras.take h ++ ras.drop (h + 1)) (rows.take h ++ rows.drop (h + 1)) := by
  have hl : ras.length = rows.length := by have := hR.2.1; rwa [List.length_map] at this
  refine ⟨hA, ?_⟩
  rw [List.map_append, List.map_take, List.map_drop]
  refine ⟨by simp [hl], fun i a o e1 e2 => ?_⟩
  have ht : (ras.take h).length = ((rows.map rowO).take h).length := by rw [List.length_take, List.length_take, List.length_map, hl]
  by_cases hi : i < (ras.take h).length
  · rw [List.getElem?_append_left hi, List.getElem?_take_of_lt (by rw [List.length_take] at hi; omega)] at e1
    rw [List.getElem?_append_left (by omega), List.getElem?_take_of_lt (by rw [List.length_take] at hi; omega)] at e2
    exact hR.2.2 i a o e1 e2
  · rw [List.getElem?_append_right (by omega), List.getElem?_drop] at e1
    rw [List.getElem?_append_right (by omega), List.getElem?_drop, ← ht] at e2
    exact hR.2.2 _ a o e1 e2
theorem d_picked {f : Addr} {fd : FuncData} (F : Fun K "_law_picked" "_law_picked" sPicked f fd) (g : mg "_law_picked" = some (.ref f)) (T : Txt K mg) (D : DTake P w K mg base) (DT : DThere P w K mg base) (DG : DGotL P w K mg base) :
    DefAt P w K mg base CX0 2 "_law_picked" ["_law_pool_here", "_law_width", "_law_cars", "_law_rows", "_law_hour"] spPicked := by
  have nd := scPicked.nd
  refine ⟨f, fd, F.ok scPicked (fun vs H Q E h => ?_) (fun cdv A outer s H vs Q E hr h => ?_), g, F.kp, F.binds fun _ _ _ _ _ _ us hl => match us, hl with | [_, _, _, _, _], _ => rfl⟩
  · obtain ⟨_, _, _, _, _, _, _, _, _, _, rfl, _⟩ := h
    rfl
  · obtain ⟨p, wd, L, cas, cars, R, ras, rows, h, r0, rfl, hp, hC, hR, nRp, rasp, w60, hl, h72, hr0, k⟩ := h
    refine ⟨_, (pss_cons (ps_set (i := 5) nd rfl (.inl rfl) (pe_op op_cat (pe_slice sl_list (pv 3) po_none (po_some (pv 4))) (pe_slice sl_list (pv 3) (po_some (pe_op op_add (pv 4) pe_int)) po_none)))
      (pss_cons (ps_set (i := 6) nd rfl (.inl rfl) (pe_lst pa_nil))
      (pss_cons (ps_for PassesOwn.never rfl (pi_range1 rfl T.range (pa_cons (pe_callB call_len_seq (by rfl) T.len PySem.boot_len (pa_cons (pv 2) pa_nil)) pa_nil)) (pg_name (i := 7) nd rfl (.inl rfl))
        (pss_one (ps_if (PW.pt (pw_and (pt_val (pe_def DT hr pass0 (pa_cons (pe_ix ix_list (pv 2) (pv 7) (fun _ _ => rfl)) (pa_cons (pv 4) pa_nil)))) (pw_and1 (pt_cmpR op_lt (pe_def DG hr pass0 (pa_cons (pv 5) (pa_cons (pv 7) pa_nil))) (pe_ix ix_tup (pe_ix ix_list (pv 2) (pv 7) (fun _ _ => rfl)) pe_int (fun _ _ => rfl)) (nomark _)))))
          (pss_one (ps_if (PW.pt (pw_and (pt_cmpR op_lt (pe_callB call_len_seq (by rfl) T.len PySem.boot_len (pa_cons (pv 6) pa_nil)) (pv 1) (nomark _)) (pw_and1 (pt_cmpR op_gt (pe_def D hr pass0 (pa_cons (pv 0) (pa_cons pe_int pa_nil))) pe_int (nomark _)))))
            (pss_one (ps_expr (pe_bm PySem.F.plainAttrs_list PySem.F.slot_list_insert PySem.F.type_list_insert mt_insert (pv 6) (pa_cons (pe_def D hr pass0 (pa_cons (pv 0) (pa_cons (pe_op op_add (pe_callB call_len_seq (by rfl) T.len PySem.boot_len (pa_cons (pv 6) pa_nil)) pe_int) pa_nil))) (pa_cons (pv 7) pa_nil)))))
            pss_nil))
          pss_nil)))
      (pss_one (ps_ret (pv 6)))))), ?_⟩
    have nLp := hC.ne hp
    refine ⟨_, rfl, _, rfl, _, rfl, R, _, rfl, SqL.of hR.1, fun A1 hA1 => ?_⟩
    have f1 : Frm [p] H (upd H A1 (.lst (cutV (refs ras) none (some (h : Int))))) := Frm.new hA1
    refine ⟨_, rfl, _, rfl, _, _, rfl, rfl, _, rfl, R, _, rfl, SqL.of (f1.at hR.1 (not1 nRp)), fun A2 hA2 => ?_⟩
    have n12 : A1 ≠ A2 := fun e => by rw [← e, upd_same] at hA2; cases hA2
    have f2 := f1.trans (Frm.new hA2 : Frm [p] _ (upd (upd H A1 (.lst (cutV (refs ras) none (some (h : Int))))) A2 (.lst (cutV (refs ras) (some ((h : Int) + 1)) none))))
    refine ⟨A1, A2, _, _, rfl, rfl, (by rw [upd_ne n12, upd_same]), upd_same, ?_, fun O hO => ?_⟩
    · have z1 := cutV_length (refs ras) none (some (h : Int))
      have z2 := cutV_length (refs ras) (some ((h : Int) + 1)) none
      rw [hR.len] at z1 z2
      have z3 : 1000 ≤ sizeLine := by decide
      omega
    rw [cutTo, show ((h : Int) + 1) = ((h + 1 : Nat) : Int) from rfl, cutFrom, show (refs ras).take h ++ (refs ras).drop (h + 1) = refs (ras.take h ++ ras.drop (h + 1)) from by show (ras.map V.ref).take h ++ (ras.map V.ref).drop (h + 1) = (ras.take h ++ ras.drop (h + 1)).map V.ref; rw [List.map_append, List.map_take, List.map_drop]]
    rw [cutTo, show ((h : Int) + 1) = ((h + 1 : Nat) : Int) from rfl, cutFrom] at hO f2
    have hOH : H O = none := f2.free hO
    have nOp : O ≠ p := hp.ne hOH
    generalize hH3 : upd (upd (upd H A1 (.lst ((refs ras).take h))) A2 (.lst ((refs ras).drop (h + 1)))) O (.lst (refs (ras.take h ++ ras.drop (h + 1)))) = H3
    have f3 : Frm [p] H H3 := by rw [← hH3]; exact f2.trans (Frm.new hO)
    have f3' : Frm [] H H3 := by rw [← hH3]; exact ((Frm.new (by exact hA1)).trans (Frm.new (by rw [cutTo] at hA2; exact hA2))).trans (Frm.new hO)
    have hO3 : H3 O = some (.lst (refs (ras.take h ++ ras.drop (h + 1)))) := by rw [← hH3, upd_same]
    have hB3 := (hR.frm f3' (by simp) (by simp)).but (h := h) hO3
    have rasb : ∀ a ∈ ras.take h ++ ras.drop (h + 1), a ≠ p := fun a ha => by
      rcases List.mem_append.mp ha with z | z
      · exact rasp a (List.mem_of_mem_take z)
      · exact rasp a (List.mem_of_mem_drop z)
    have hlo : (rows.take h ++ rows.drop (h + 1)).length ≤ 1000 := by rw [List.length_append, List.length_take, List.length_drop]; omega
    generalize ras.take h ++ ras.drop (h + 1) = oas at hB3 rasb hO3
    refine ⟨Nat.zero_le _, fun W hW => ?_⟩
    have hWH : H W = none := f3.free hW
    have nWp : W ≠ p := hp.ne hWH
    have nWO : W ≠ O := ne_new hO3 hW
    have oasW : ∀ a ∈ oas, a ≠ W := fun a ha e => hB3.2.free (H0 := H) hW (e ▸ ha)
    have f4 : Frm [p] H (upd H3 W (.lst [])) := f3.trans (Frm.new hW)
    refine ⟨_, rfl, L, _, rfl, .inl (SqL.of (hC.frm f4 (not1 nLp)).1), cars.length, (by rw [hC.len]), by omega, by omega, for_range (lo := 0) (n := cars.length) (fun j σ H5 => ∃ v7 ns, σ = [some (.ref p), some (iv wd), some (.ref L), some (.ref R), some (iv h), some (.ref O), some (.ref W), v7] ∧
      Frm [p] H H5 ∧ PoolAt H5 p ∧ RowsL H5 O oas (rows.take h ++ rows.drop (h + 1)) ∧ H5 W = some (rowO ns) ∧ ns.Nodup ∧ (∀ k ∈ ns, k < j) ∧ ns.length ≤ wd ∧ (∀ k ∈ ns, ∃ c : Car, cars[k]? = some c ∧ c.1 ≤ h ∧ h < c.1 + c.2.1 ∧ gotN (rows.set h []) k < c.2.2))
      ⟨none, [], rfl, f4, (hp.frm f3' (by simp)).frm (Frm.new (l := []) hW) (by simp), hB3.frm (Frm.new (l := []) hW) (by simp) (by simp), upd_same, List.nodup_nil, (fun k hk => by cases hk), Nat.zero_le _, (fun k hk => by cases hk)⟩ ?_ ?_⟩
    · rintro j σ H5 hj ⟨v7, ns, rfl, f5, hp5, hO5, hW5, hnd, hlt, hwd, hwin⟩
      rw [z0]
      have hc : cars[j]? = some cars[j] := List.getElem?_eq_getElem hj
      generalize cars[j] = c at hc
      have hC5 := hC.frm f5 (not1 nLp)
      obtain ⟨a, ha, ea⟩ := hC5.car hc
      have hskip : ∀ k ∈ ns, k < j + 1 := fun k hk => Nat.lt_succ_of_lt (hlt k hk)
      refine ⟨_, rfl, _, rfl, L, _, _, _, rfl, rfl, SqL.of hC5.1, atI_nat (map_ix ha), _, rfl, a, c, h, rfl, ea, _, rfl, ifl (fun hin => ?_) (fun hout => ?_)⟩
      · refine ⟨_, rfl, _, rfl, O, oas, _, j, rfl, hO5, hlo, fun H6 f6 => ?_⟩
        have f56 : Frm [p] H H6 := f5.trans f6.nil
        have hC6 := hC5.frm f6 (by simp)
        have hp6 := hp5.frm f6 (by simp)
        have hO6 := hO5.frm f6 (by simp) (by simp)
        have hW6 := f6.at hW5 (by simp)
        obtain ⟨a', ha', ea'⟩ := hC6.car hc
        refine ⟨_, rfl, _, rfl, L, _, _, _, rfl, rfl, SqL.of hC6.1, atI_nat (map_ix ha'), a', _, 2, _, rfl, rfl, SqT.of ea', atI_nat (j := 2) rfl, _, _, rfl, rfl, _, rfl, ifl (fun hneed => ?_) (fun hfull => ?_)⟩
        · rw [gotN_but_set hr0] at hneed
          refine ⟨_, rfl, W, _, rfl, .inl (SqL.of hW6), _, rfl, _, _, rfl, rfl, _, rfl, ifl (fun hw => ?_) (fun hw => ?_)⟩
          · rw [List.length_map] at hw
            refine ⟨_, rfl, p, 3, rfl, hp6, by omega, by omega, fun H7 d7 hd7 f7 hp7 => ?_⟩
            have f67 : Frm [p] H H7 := f56.trans f7
            have hO7 := hO6.frm f7 (not1 nOp) (fun a ha => not1 (rasb a ha))
            have hW7 := f7.at hW6 (not1 nWp)
            refine ⟨_, _, rfl, rfl, _, rfl, ifl (fun _ => ?_) (fun _ => ?_)⟩
            · refine ⟨_, rfl, .inl ⟨rfl, _, SqL.of hW7⟩, _, rfl, _, rfl, W, _, rfl, .inl (SqL.of hW7), _, _, rfl, rfl, p, ns.length + 1, (by rw [List.length_map]; rfl), hp7, by omega, by omega, fun H8 d8 hd8 f8 hp8 => ?_⟩
              have f78 : Frm [p] H H8 := f67.trans f8
              have hO8 := hO7.frm f8 (not1 nOp) (fun a ha => not1 (rasb a ha))
              have hW8 := f8.at hW7 (not1 nWp)
              refine ⟨_, rfl, W, _, _, _, rfl, rfl, hW8, ?_, by omega, by omega, ?_⟩
              · have z3 : 1000 < sizeLine := by decide
                rw [List.length_map]
                omega
              have pm := ins_perm ns d8 j
              have fW : ∀ ys, Frm [W] H8 (upd H8 W (.lst ys)) := fun ys => Frm.set (List.mem_singleton.mpr rfl) hW8
              refine ⟨_, ns.take d8 ++ [j] ++ ns.drop d8, rfl, f78.put hWH, hp8.frm (fW _) (not1 nWp.symm), hO8.frm (fW _) (not1 nWO.symm) (fun a ha => not1 (oasW a ha)), ?_, pm.nodup_iff.mpr (List.nodup_cons.mpr ⟨fun z => Nat.lt_irrefl _ (hlt j z), hnd⟩), fun k hk => ?_, by rw [pm.length_eq, List.length_cons]; omega, fun k hk => ?_⟩
              · rw [upd_same]
                show some (HO.lst ((ns.map iv).take d8 ++ [iv j] ++ (ns.map iv).drop d8)) = some (.lst ((ns.take d8 ++ [j] ++ ns.drop d8).map iv))
                rw [List.map_append, List.map_append, List.map_take, List.map_drop]
                rfl
              · rcases List.mem_cons.mp (pm.mem_iff.mp hk) with z | z
                · omega
                · exact hskip k z
              · rcases List.mem_cons.mp (pm.mem_iff.mp hk) with z | z
                · rw [z]
                  exact ⟨c, hc, hin.1, hin.2, by omega⟩
                · exact hwin k z
            · exact ⟨_, ns, rfl, f67, hp7, hO7, hW7, hnd, hskip, hwd, hwin⟩
          · exact ⟨_, ns, rfl, f56, hp6, hO6, hW6, hnd, hskip, hwd, hwin⟩
        · exact ⟨_, ns, rfl, f56, hp6, hO6, hW6, hnd, hskip, hwd, hwin⟩
      · exact iteF ⟨_, ns, rfl, f5, hp5, hO5, hW5, hnd, hskip, hwd, hwin⟩
    · rintro σ H5 ⟨v7, ns, rfl, f5, hp5, hO5, hW5, hnd, hlt, hwd, hwin⟩
      exact ⟨_, rfl, k H5 W ns hnd hwd hwin f5 hp5 hWH hW5⟩
end
end Oc
-- L6
set_option Elab.async false
set_option linter.all false
set_option maxRecDepth 100000
set_option maxHeartbeats 4000000
/-! _law_reach, _law_no_chain. -/
namespace Oc
open PySem PySem.Spec PyProof.Rows L2
/-- what is reached for certain: what lies in all closed sets about n0 -/
def RC (cars : List Car) (rows : Rows) (n0 k : Nat) : Prop := ∀ Cs Hs, Closed cars rows Cs Hs → Cs n0 → Cs k
def RH (cars : List Car) (rows : Rows) (n0 h : Nat) : Prop := ∀ Cs Hs, Closed cars rows Cs Hs → Cs n0 → Hs h
theorem RC.start {cars : List Car} {rows : Rows} {n0 : Nat} : RC cars rows n0 n0 := fun _ _ _ h => h
theorem RH.of {cars : List Car} {rows : Rows} {n0 k h : Nat} {c : Car} (r : RC cars rows n0 k) (hc : cars[k]? = some c) (w1 : c.1 ≤ h) (w2 : h < c.1 + c.2.1) (hn : k ∉ rowAt rows h) : RH cars rows n0 h := fun Cs Hs C s => C.hrs k c (r Cs Hs C s) hc h w1 w2 hn
theorem RC.of {cars : List Car} {rows : Rows} {n0 k h : Nat} (r : RH cars rows n0 h) (hk : k ∈ rowAt rows h) : RC cars rows n0 k := fun Cs Hs C s => C.crs h (r Cs Hs C s) k hk
theorem nodup_snoc {l : List Nat} {k : Nat} (hn : l.Nodup) (h : k ∉ l) : (l ++ [k]).Nodup := List.nodup_append.mpr ⟨hn, by simp, fun a ha b hb e => h (by rw [List.mem_singleton.mp hb] at e; exact e ▸ ha)⟩
theorem and2 {c d A B M : Prop} [Decidable c] [Decidable d] (hM : (if decide d = true then A else B) → M) (hy : c → d → A) (hn : ¬ (c ∧ d) → B) : if decide c = true then M else (if false = true then A else B) := by
  by_cases hc : c
  · rw [if_pos (decide_eq_true hc)]
    refine hM (ifl (fun hd => hy hc hd) fun hd => hn fun q => hd q.2)
  · rw [if_neg (fun q => hc (of_decide_eq_true q)), if_neg Bool.false_ne_true]
    exact hn fun q => hc q.1
section
variable {P : Program} {w : World} {K : PySem.W.Frag} {mg : Str → Option Value} {base : Heap}
def spReach : Sp := fun vs H Q _ => ∃ (L : Addr) (cas : List Addr) (cars : List Car) (R : Addr) (ras : List Addr) (rows : Rows) (N : Addr) (n0 : Nat), vs = [.ref L, .ref R, .ref N] ∧ CarsL H L cas cars ∧ RowsL H R ras rows ∧ H N = some (.lst [iv n0]) ∧ n0 < cars.length ∧ cars.length ≤ 14 ∧ rows.length ≤ 72 ∧
  (∀ c ∈ cars, c.1 + c.2.1 ≤ rows.length) ∧ (∀ r ∈ rows, ∀ k ∈ r, k < cars.length) ∧
  ∀ H' Z A B hs, Frm [] H H' → H' Z = some (.lst [.ref A, .ref B]) → H' A = some (rowO hs) → (∀ h ∈ hs, h < rows.length ∧ RH cars rows n0 h) → Q (.ref Z) H'
theorem scReach : FnScope ["_law_cars", "_law_rows", "_law_numbers", "_law_found", "_law_hours_here", "_law_at", "_law_number", "_law_hour", "_law_other", "_law_k"] ["_law_cars", "_law_rows", "_law_numbers"] (defScope sReach) := ⟨rfl, rfl, rfl, by decide +kernel, rfl, by decide +kernel, by decide +kernel⟩
/-- the search's state -/
structure RI (cars : List Car) (rows : Rows) (n0 : Nat) (found hs : List Nat) : Prop where
  fn : found.Nodup
  fl : ∀ k ∈ found, k < cars.length
  fr : ∀ k ∈ found, RC cars rows n0 k
  hn : hs.Nodup
  hl : ∀ h ∈ hs, h < rows.length
  hr : ∀ h ∈ hs, RH cars rows n0 h
theorem d_reach {f : Addr} {fd : FuncData} (F : Fun K "_law_reach" "_law_reach" sReach f fd) (g : mg "_law_reach" = some (.ref f)) (T : Txt K mg) : DefAt P w K mg base CX0 1 "_law_reach" ["_law_cars", "_law_rows", "_law_numbers"] spReach := by
  have nd := scReach.nd
  refine ⟨f, fd, F.ok scReach (fun vs H Q E h => ?_) (fun cdv A outer s H vs Q E hr h => ?_), g, F.kp, F.binds fun _ _ _ _ _ _ us hl => match us, hl with | [_, _, _], _ => rfl⟩
  · obtain ⟨_, _, _, _, _, _, _, _, rfl, _⟩ := h
    rfl
  · obtain ⟨L, cas, cars, R, ras, rows, N, n0, rfl, hC, hR, hN, hn0, hcl, h72, hwin, hmem, k⟩ := h
    refine ⟨_, (pss_cons (ps_set (i := 3) nd rfl (.inr rfl) (pe_callTy call_list_of (by rfl) T.list (by decide +kernel) (pa_cons (pv 2) pa_nil)))
      (pss_cons (ps_set (i := 4) nd rfl (.inr rfl) (pe_lst pa_nil))
      (pss_cons (ps_set (i := 5) nd rfl (.inl rfl) pe_int)
      (pss_cons (ps_while PassesOwn.never (PW.pt (pw_and (pt_cmpR op_lt (pv 5) (pe_callB call_len_seq (by rfl) T.len PySem.boot_len (pa_cons (pv 3) pa_nil)) (nomark _)) (pw_and1 (pt_cmpR op_lt (pv 5) (pe_callB call_len_seq (by rfl) T.len PySem.boot_len (pa_cons (pv 0) pa_nil)) (nomark _)))))
        (pss_cons (ps_set (i := 6) nd rfl (.inl rfl) (pe_ix ix_list (pv 3) (pv 5) (fun _ _ => rfl)))
        (pss_cons (ps_set (i := 5) nd rfl (.inl rfl) (pe_op op_add (pv 5) pe_int))
        (pss_one (ps_for PassesOwn.never rfl (pi_range2 rfl T.range (pa_cons (pe_ix ix_tup (pe_ix ix_list (pv 0) (pv 6) (fun _ _ => rfl)) pe_int (fun _ _ => rfl)) (pa_cons (pe_op op_add (pe_ix ix_tup (pe_ix ix_list (pv 0) (pv 6) (fun _ _ => rfl)) pe_int (fun _ _ => rfl)) (pe_ix ix_tup (pe_ix ix_list (pv 0) (pv 6) (fun _ _ => rfl)) pe_int (fun _ _ => rfl))) pa_nil))) (pg_name (i := 7) nd rfl (.inl rfl))
          (pss_one (ps_if (PW.pt (pw_and (pt_cmpR op_notIn_seq (pv 6) (pe_ix ix_list (pv 1) (pv 7) (fun _ _ => rfl)) (by rfl)) (pw_and1 (pt_cmpR op_notIn_seq (pv 7) (pv 4) (by rfl)))))
            (pss_cons (ps_expr (pe_bm PySem.F.plainAttrs_list PySem.F.slot_list_append PySem.F.type_list_append mt_append (pv 4) (pa_cons (pv 7) pa_nil)))
            (pss_one (ps_for PassesOwn.never rfl (pi_list (pe_ix ix_list (pv 1) (pv 7) (fun _ _ => rfl))) (pg_name (i := 8) nd rfl (.inl rfl))
              (pss_one (ps_if (pt_cmpR op_notIn_seq (pv 8) (pv 3) (by rfl))
                (pss_one (ps_expr (pe_bm PySem.F.plainAttrs_list PySem.F.slot_list_append PySem.F.type_list_append mt_append (pv 3) (pa_cons (pv 8) pa_nil))))
                pss_nil)))))
            pss_nil)))))))
      (pss_one (ps_ret (pe_lst (pa_cons (pe_lc (own := [("_law_hour", 7)]) (g := gName 7) rfl nd (pi_range1 rfl T.range (pa_cons (pe_callB call_len_seq (by rfl) T.len PySem.boot_len (pa_cons (pv 1) pa_nil)) pa_nil)) (blkOk_by (own := [("_law_hour", 7)]) (N := ["_law_cars", "_law_rows", "_law_numbers", "_law_found", "_law_hours_here", "_law_at", "_law_number", "_law_hour", "_law_other", "_law_k"]) (sc := defScope sReach) (by decide +kernel)) (fun _ _ _ _ _ => pg_name (i := 7) nd rfl (Or.inl rfl)) (fun _ _ _ _ _ => pts_one (pt_cmpR (op_in_seqK K) (pv 7) (pv 4) (by rfl))) (fun _ _ _ _ _ => (pv 7))) (pa_cons (pe_lc (own := [("_law_k", 9)]) (g := gName 9) rfl nd (pi_range1 rfl T.range (pa_cons (pe_callB call_len_seq (by rfl) T.len PySem.boot_len (pa_cons (pv 0) pa_nil)) pa_nil)) (blkOk_by (own := [("_law_k", 9)]) (N := ["_law_cars", "_law_rows", "_law_numbers", "_law_found", "_law_hours_here", "_law_at", "_law_number", "_law_hour", "_law_other", "_law_k"]) (sc := defScope sReach) (by decide +kernel)) (fun _ _ _ _ _ => pg_name (i := 9) nd rfl (Or.inl rfl)) (fun _ _ _ _ _ => pts_one (pt_cmpR (op_in_seqK K) (pv 9) (pv 3) (by rfl))) (fun _ _ _ _ _ => (pv 9))) pa_nil))))))))), ?_⟩
    refine ⟨_, rfl, N, _, rfl, .inl (SqL.of hN), fun Fo hFo => ?_⟩
    refine ⟨Nat.zero_le _, fun Hh hHh => ?_⟩
    have nFH : Fo ≠ Hh := fun e => by rw [← e, upd_same] at hHh; cases hHh
    have hHh0 : H Hh = none := by rw [upd_ne nFH.symm] at hHh; exact hHh
    have z3 : 1000 < sizeLine := by decide
    -- while
    refine ⟨fun mm σ H' => ∃ found hs m v6 v7 v8, σ = [some (.ref L), some (.ref R), some (.ref N), some (.ref Fo), some (.ref Hh), some (iv m), v6, v7, v8, none] ∧ Frm [] H H' ∧ H' Fo = some (rowO found) ∧ H' Hh = some (rowO hs) ∧ RI cars rows n0 found hs ∧ mm + m = cars.length,
      ⟨cars.length, [n0], [], 0, none, none, none, rfl, (Frm.new hFo).trans (Frm.new hHh), by rw [upd_ne nFH, upd_same]; rfl, upd_same, ⟨by simp, fun k hk => by rw [List.mem_singleton.mp hk]; exact hn0, fun k hk => by rw [List.mem_singleton.mp hk]; exact RC.start, .nil, (fun h hh => by cases hh), (fun h hh => by cases hh)⟩, rfl⟩, fun mm σ H' hW => ?_⟩
    obtain ⟨found, hs, m, v6, v7, v8, rfl, f1, eF, eH, I, hmm⟩ := hW
    have hC1 := hC.frm f1 (by simp)
    have hR1 := hR.frm f1 (by simp) (by simp)
    refine ⟨_, rfl, _, rfl, Fo, _, rfl, .inl (SqL.of eF), _, _, rfl, rfl, _, rfl, and2 (d := (m : Int) < ((refs cas).length : Nat)) (fun q => ⟨_, rfl, _, rfl, L, _, rfl, .inl (SqL.of hC1.1), _, _, rfl, rfl, _, rfl, q⟩) (fun g1 g2 => ?_) (fun g => ?_)⟩
    · rw [List.length_map] at g1
      rw [hC.len] at g2
      have hm1 : m < found.length := by omega
      have hm2 : m < cars.length := by omega
      have hk : found[m]? = some found[m] := List.getElem?_eq_getElem hm1
      generalize found[m] = kx at hk
      have hkm := List.mem_of_getElem? hk
      have hkl := I.fl kx hkm
      have hkr := I.fr kx hkm
      have hc : cars[kx]? = some cars[kx] := List.getElem?_eq_getElem hkl
      generalize cars[kx] = c at hc
      have hcw := hwin c (List.mem_of_getElem? hc)
      obtain ⟨a, ha, ea⟩ := hC1.car hc
      refine ⟨fun σ' H'' => ∃ mm', mm' < mm ∧ ∃ found hs m v6 v7 v8, σ' = [some (.ref L), some (.ref R), some (.ref N), some (.ref Fo), some (.ref Hh), some (iv m), v6, v7, v8, none] ∧ Frm [] H H'' ∧ H'' Fo = some (rowO found) ∧ H'' Hh = some (rowO hs) ∧ RI cars rows n0 found hs ∧ mm' + m = cars.length, fun σ' H'' z => z, ?_⟩
      refine ⟨_, rfl, _, rfl, Fo, _, _, _, rfl, rfl, SqL.of eF, atI_nat (map_ix hk), ?_⟩
      refine ⟨_, rfl, _, _, rfl, rfl, ?_⟩
      have en : ((c.1 : Int) + (c.2.1 : Int) - (c.1 : Int)).toNat = c.2.1 := by omega
      refine ⟨_, rfl, _, rfl, L, _, _, _, rfl, rfl, SqL.of hC1.1, atI_nat (map_ix ha), a, _, 0, _, rfl, rfl, SqT.of ea, atI_nat (j := 0) rfl, ?_⟩
      refine ⟨_, rfl, _, rfl, L, _, _, _, rfl, rfl, SqL.of hC1.1, atI_nat (map_ix ha), a, _, 0, _, rfl, rfl, SqT.of ea, atI_nat (j := 0) rfl, ?_⟩
      refine ⟨_, rfl, _, rfl, L, _, _, _, rfl, rfl, SqL.of hC1.1, atI_nat (map_ix ha), a, _, 1, _, rfl, rfl, SqT.of ea, atI_nat (j := 1) rfl, _, _, rfl, rfl, (c.1 : Int), (c.1 : Int) + (c.2.1 : Int), rfl, ⟨by omega, by omega, by omega, by omega⟩, ?_⟩
      rw [en]
      refine for_range (lo := (c.1 : Int)) (n := c.2.1) (fun i σ H2 => ∃ found hs v7 v8, σ = [some (.ref L), some (.ref R), some (.ref N), some (.ref Fo), some (.ref Hh), some (iv (m + 1)), some (iv kx), v7, v8, none] ∧ Frm [] H H2 ∧ H2 Fo = some (rowO found) ∧ H2 Hh = some (rowO hs) ∧ RI cars rows n0 found hs)
        ⟨found, hs, v7, v8, rfl, f1, eF, eH, I⟩ ?_ ?_
      · rintro i σ H2 hi ⟨found2, hs2, v7', v8', rfl, f2, eF2, eH2, I2⟩
        rw [show V.int ((c.1 : Int) + (i : Int)) = iv (c.1 + i) from rfl]
        have hr' : rows[c.1 + i]? = some rows[c.1 + i] := List.getElem?_eq_getElem (by omega)
        generalize hrr : rows[c.1 + i] = r at hr'
        have hra := rowAt_of hr'
        have hR2 := hR.frm f2 (by simp) (by simp)
        obtain ⟨ra, hra1, era⟩ := hR2.row hr'
        have hll := nodup_len _ _ I2.fn I2.fl
        have hhl := nodup_len _ _ I2.hn I2.hl
        refine ⟨_, rfl, _, rfl, _, rfl, R, _, c.1 + i, _, rfl, rfl, SqL.of hR2.1, atI_nat (map_ix hra1), ra, _, rfl, .inl (SqL.of era), rfl, flat_iv r, _, rfl, ?_⟩
        show if (!inV (iv kx) (r.map iv)) = true then _ else _
        rw [inV_iv]
        by_cases hkr' : kx ∈ r
        · exact iteNS hkr' (iteF ⟨found2, hs2, _, _, rfl, f2, eF2, eH2, I2⟩)
        · refine ifnd hkr' ⟨_, rfl, _, rfl, Hh, _, rfl, .inl (SqL.of eH2), rfl, flat_iv hs2, _, rfl, ?_⟩
          show if (!inV (iv (c.1 + i)) (hs2.map iv)) = true then _ else _
          rw [inV_iv]
          by_cases hhh : c.1 + i ∈ hs2
          · exact iteNS hhh ⟨found2, hs2, _, _, rfl, f2, eF2, eH2, I2⟩
          · refine ifnd hhh ?_
            refine ⟨_, rfl, .inl ⟨rfl, _, SqL.of eH2⟩, _, rfl, Hh, _, _, rfl, rfl, eH2, small1000 (by rw [List.length_map]; omega), ?_⟩
            have hrh : RH cars rows n0 (c.1 + i) := RH.of hkr hc (by omega) (by omega) (by rw [hra]; exact hkr')
            have I3 : RI cars rows n0 found2 (hs2 ++ [c.1 + i]) := ⟨I2.fn, I2.fl, I2.fr, nodup_snoc I2.hn hhh, fun h hh => by
              rcases List.mem_append.mp hh with z | z
              · exact I2.hl h z
              · rw [List.mem_singleton.mp z]; omega, fun h hh => by
              rcases List.mem_append.mp hh with z | z
              · exact I2.hr h z
              · rw [List.mem_singleton.mp z]; exact hrh⟩
            have f3 : Frm [] H (upd H2 Hh (.lst (hs2.map iv ++ [iv (c.1 + i)]))) := f2.put hHh0
            have eH3 : upd H2 Hh (.lst (hs2.map iv ++ [iv (c.1 + i)])) Hh = some (rowO (hs2 ++ [c.1 + i])) := by rw [upd_same, rowO_snoc]
            have eF3 : upd H2 Hh (.lst (hs2.map iv ++ [iv (c.1 + i)])) Fo = some (rowO found2) := by rw [upd_ne nFH]; exact eF2
            generalize upd H2 Hh (.lst (hs2.map iv ++ [iv (c.1 + i)])) = H3 at f3 eH3 eF3
            have hR3 := hR.frm f3 (by simp) (by simp)
            obtain ⟨rb, hrb1, erb0⟩ := hR.row hr'
            have erb := f3.at erb0 (by simp)
            have nbF : rb ≠ Fo := ne_of_none erb0 hFo
            refine ⟨_, rfl, _, rfl, R, _, c.1 + i, _, rfl, rfl, SqL.of hR3.1, atI_nat (map_ix hrb1), rb, rfl, ⟨_, SqL.of erb⟩, for_list (K := K) (a := rb) (xs := r.map iv) (fun j σ H4 => ∃ found v8, σ = [some (.ref L), some (.ref R), some (.ref N), some (.ref Fo), some (.ref Hh), some (iv (m + 1)), some (iv kx), some (iv (c.1 + i)), v8, none] ∧ Frm [] H H4 ∧ H4 Fo = some (rowO found) ∧ H4 Hh = some (rowO (hs2 ++ [c.1 + i])) ∧ H4 rb = some (rowO r) ∧ RI cars rows n0 found (hs2 ++ [c.1 + i]))
              ⟨found2, _, rfl, f3, eF3, eH3, erb, I3⟩ (fun j σ H4 _ ⟨_, _, _, _, _, _, e, _⟩ => SqL.of e) ?_ ?_⟩
            · rintro j y σ H4 hj ⟨found4, v8'', rfl, f4, eF4, eH4, erb4, I4⟩
              obtain ⟨q, hq, rfl⟩ := ix_map hj
              have hqr : q ∈ r := List.mem_of_getElem? hq
              have hql : q < cars.length := hmem r (List.mem_of_getElem? hr') q hqr
              have hl4 := nodup_len _ _ I4.fn I4.fl
              refine ⟨_, rfl, _, rfl, Fo, _, rfl, .inl (SqL.of eF4), rfl, flat_iv found4, _, rfl, ?_⟩
              show if (!inV (iv q) (found4.map iv)) = true then _ else _
              rw [inV_iv]
              by_cases hqf : q ∈ found4
              · exact iteNS hqf ⟨found4, _, rfl, f4, eF4, eH4, erb4, I4⟩
              · refine ifnd hqf ?_
                refine ⟨_, rfl, .inl ⟨rfl, _, SqL.of eF4⟩, _, rfl, Fo, _, _, rfl, rfl, eF4, small1000 (by rw [List.length_map]; omega), ?_⟩
                have hqc : RC cars rows n0 q := RC.of hrh (by rw [hra]; exact hqr)
                refine ⟨found4 ++ [q], _, rfl, f4.put (by exact hFo), by rw [upd_same, rowO_snoc], by rw [upd_ne nFH.symm]; exact eH4, by rw [upd_ne nbF]; exact erb4, ⟨nodup_snoc I4.fn hqf, fun k hk => ?_, fun k hk => ?_, I4.hn, I4.hl, I4.hr⟩⟩
                · rcases List.mem_append.mp hk with z | z
                  · exact I4.fl k z
                  · rw [List.mem_singleton.mp z]; exact hql
                · rcases List.mem_append.mp hk with z | z
                  · exact I4.fr k z
                  · rw [List.mem_singleton.mp z]; exact hqc
            · rintro σ H4 ⟨found4, v8'', rfl, f4, eF4, eH4, erb4, I4⟩
              exact ⟨found4, _, _, _, rfl, f4, eF4, eH4, I4⟩
      · rintro σ H2 ⟨found2, hs2, v7', v8', rfl, f2, eF2, eH2, I2⟩
        exact ⟨mm - 1, by omega, found2, hs2, m + 1, _, _, _, rfl, f2, eF2, eH2, I2, by omega⟩
    · -- the answer
      refine ⟨_, rfl, R, _, rfl, .inl (SqL.of hR1.1), rows.length, (by rw [hR1.len]), by omega, by omega, fun A1 hA1 => lc_range (lo := 0) (n := rows.length) (fun i H2 => H2 = upd H' A1 (.lst (((List.range i).filter fun h => decide (h ∈ hs)).map iv))) rfl ?_ ?_⟩
      · rintro i H2 hi rfl
        rw [z0]
        have eH2 : upd H' A1 (.lst (((List.range i).filter fun h => decide (h ∈ hs)).map iv)) Hh = some (rowO hs) := by rw [upd_ne (ne_of_none eH hA1)]; exact eH
        have hlen : (((List.range i).filter fun h => decide (h ∈ hs)).map iv).length ≤ i := by
          rw [List.length_map]
          exact Nat.le_trans (List.length_filter_le _ _) (by rw [List.length_range]; exact Nat.le_refl _)
        refine ⟨rfl, _, rfl, _, rfl, Hh, _, rfl, .inl (SqL.of eH2), rfl, flat_iv hs, _, rfl, ?_⟩
        show if inV (iv i) (hs.map iv) = true then _ else _
        rw [inV_iv]
        refine ifl (fun hm => ⟨_, rfl, _, upd_same, small1000 (by omega), ?_⟩) (fun hm => ?_)
        · rw [upd_upd, List.range_succ, List.filter_append, List.filter_cons_of_pos (by simpa using hm), List.map_append]
          rfl
        · show upd H' A1 _ = upd H' A1 _
          rw [List.range_succ, List.filter_append, List.filter_cons_of_neg (by simpa using hm), List.filter_nil, List.append_nil]
      · rintro H2 rfl
        generalize hhs : (List.range rows.length).filter (fun h => decide (h ∈ hs)) = hs'
        have hmem' : ∀ h ∈ hs', h < rows.length ∧ RH cars rows n0 h := fun h hh => by
          rw [← hhs, List.mem_filter, List.mem_range] at hh
          exact ⟨hh.1, I.hr h (of_decide_eq_true hh.2)⟩
        have fA : Frm [] H' (upd H' A1 (.lst (hs'.map iv))) := Frm.new hA1
        have eA : upd H' A1 (.lst (hs'.map iv)) A1 = some (rowO hs') := upd_same
        generalize upd H' A1 (.lst (hs'.map iv)) = H3 at fA eA
        have hC3 := hC1.frm fA (by simp)
        have eF3 := fA.at eF (by simp)
        have hll := nodup_len _ _ I.fn I.fl
        refine ⟨_, rfl, L, _, rfl, .inl (SqL.of hC3.1), cars.length, (by rw [hC3.len]), by omega, by omega, fun B1 hB1 => lc_range (lo := 0) (n := cars.length) (fun i H4 => ∃ acc, H4 = upd H3 B1 (.lst acc) ∧ acc.length ≤ i) ⟨[], rfl, Nat.le_refl _⟩ ?_ ?_⟩
        · rintro i H4 hi ⟨acc, rfl, hacc⟩
          rw [z0]
          have eF4 : upd H3 B1 (.lst acc) Fo = some (rowO found) := by rw [upd_ne (ne_of_none eF3 hB1)]; exact eF3
          refine ⟨rfl, _, rfl, _, rfl, Fo, _, rfl, .inl (SqL.of eF4), rfl, flat_iv found, _, rfl, ?_⟩
          show if inV (iv i) (found.map iv) = true then _ else _
          rw [inV_iv]
          refine ifl (fun hm => ⟨_, rfl, acc, upd_same, small1000 (by omega), acc ++ [iv i], ?_, ?_⟩) (fun hm => ⟨acc, rfl, by omega⟩)
          · rw [upd_upd]
          · rw [List.length_append]
            show acc.length + 1 ≤ i + 1
            omega
        · rintro H4 ⟨acc, rfl, hacc⟩
          have nAB : A1 ≠ B1 := ne_of_none eA hB1
          refine ⟨(by show 2 ≤ sizeLine; decide), fun Z hZ => k _ Z A1 B1 hs' ((f1.trans (fA.trans (Frm.new hB1))).trans (Frm.new hZ)) upd_same ?_ hmem'⟩
          have eA4 : upd H3 B1 (.lst acc) A1 = some (rowO hs') := by rw [upd_ne nAB]; exact eA
          rw [upd_ne (ne_of_none eA4 hZ)]
          exact eA4
end
end Oc
-- L7
set_option Elab.async false
set_option linter.all false
set_option maxRecDepth 100000
set_option maxHeartbeats 4000000
/-! _law_no_chain, _law_is_chain, _law_chain_told. -/
namespace Oc
open PySem PySem.Spec PyProof.Rows L2
section
variable {P : Program} {w : World} {K : PySem.W.Frag} {mg : Str → Option Value} {base : Heap}
abbrev DReach (P : Program) (w : World) (K : PySem.W.Frag) (mg : Str → Option Value) (base : Heap) : Prop := DefAt P w K mg base CX0 1 "_law_reach" ["_law_cars", "_law_rows", "_law_numbers"] spReach
/-- the law's own lists of the day: cars, rows -/
structure Lists (H : Hp) (L : Addr) (cas : List Addr) (cars : List Car) (R : Addr) (ras : List Addr) (rows : Rows) : Prop where
  C : CarsL H L cas cars
  R : RowsL H R ras rows
  cl : cars.length ≤ 14
  rl : rows.length ≤ 72
  win : ∀ c ∈ cars, c.1 + c.2.1 ≤ rows.length
  mem : ∀ r ∈ rows, ∀ k ∈ r, k < cars.length
theorem Lists.frm {H H' : Hp} {L : Addr} {cas : List Addr} {cars : List Car} {R : Addr} {ras : List Addr} {rows : Rows} (h : Lists H L cas cars R ras rows) (f : Frm [] H H') : Lists H' L cas cars R ras rows := ⟨h.C.frm f (by simp), h.R.frm f (by simp) (by simp), h.cl, h.rl, h.win, h.mem⟩
def spNoChain : Sp := fun vs H Q _ => ∃ (wd : Nat) (L : Addr) (cas : List Addr) (cars : List Car) (R : Addr) (ras : List Addr) (rows : Rows) (n0 : Nat) (c0 : Car), vs = [iv wd, .ref L, .ref R, iv n0] ∧ Lists H L cas cars R ras rows ∧ cars[n0]? = some c0 ∧ (gotN rows n0 = c0.2.2 ∨ NoChain wd cars rows n0) ∧ ∀ H', Frm [] H H' → Q (.bl true) H'
theorem scNoChain : FnScope ["_law_width", "_law_cars", "_law_rows", "_law_number", "_law_hour"] ["_law_width", "_law_cars", "_law_rows", "_law_number"] (defScope sNoChain) := ⟨rfl, rfl, rfl, by decide +kernel, rfl, by decide +kernel, by decide +kernel⟩
theorem d_nochain {f : Addr} {fd : FuncData} (F : Fun K "_law_no_chain" "_law_no_chain" sNoChain f fd) (g : mg "_law_no_chain" = some (.ref f)) (T : Txt K mg) (DG : DGotL P w K mg base) (DR : DReach P w K mg base) : DefAt P w K mg base CX0 2 "_law_no_chain" ["_law_width", "_law_cars", "_law_rows", "_law_number"] spNoChain := by
  have nd := scNoChain.nd
  refine ⟨f, fd, F.ok scNoChain (fun vs H Q E h => ?_) (fun cdv A outer s H vs Q E hr h => ?_), g, F.kp, F.binds fun _ _ _ _ _ _ us hl => match us, hl with | [_, _, _, _], _ => rfl⟩
  · obtain ⟨_, _, _, _, _, _, _, _, _, rfl, _⟩ := h
    rfl
  · obtain ⟨wd, L, cas, cars, R, ras, rows, n0, c0, rfl, B, hc0, hno, k⟩ := h
    refine ⟨_, (pss_cons (ps_if (pt_cmpR op_eq (pe_def DG hr pass0 (pa_cons (pv 2) (pa_cons (pv 3) pa_nil))) (pe_ix ix_tup (pe_ix ix_list (pv 1) (pv 3) (fun _ _ => rfl)) pe_int (fun _ _ => rfl)) (nomark _))
        (pss_one (ps_ret pe_bl))
        pss_nil)
      (pss_cons (ps_for PassesOwn.never rfl (pi_list (pe_ix ix_list (pe_def DR hr pass0 (pa_cons (pv 1) (pa_cons (pv 2) (pa_cons (pe_lst (pa_cons (pv 3) pa_nil)) pa_nil)))) pe_int (fun _ _ => rfl))) (pg_name (i := 4) nd rfl (.inl rfl))
        (pss_one (ps_if (pt_cmpR op_lt (pe_callB call_len_seq (by rfl) T.len PySem.boot_len (pa_cons (pe_ix ix_list (pv 2) (pv 4) (fun _ _ => rfl)) pa_nil)) (pv 0) (nomark _))
          (pss_one (ps_ret pe_bl))
          pss_nil)))
      (pss_one (ps_ret pe_bl)))), ?_⟩
    have hrl := B.rl
    refine ⟨_, rfl, _, rfl, R, ras, rows, n0, rfl, B.R, by omega, fun H1 f1 => ?_⟩
    have B1 := B.frm f1
    obtain ⟨a, ha, ea⟩ := B1.C.car hc0
    refine ⟨_, rfl, _, rfl, L, _, _, _, rfl, rfl, SqL.of B1.C.1, atI_nat (map_ix ha), a, _, 2, _, rfl, rfl, SqT.of ea, atI_nat (j := 2) rfl, rfl, _, rfl, ifl (fun he => k H1 f1) (fun hne => ?_)⟩
    have hno' : NoChain wd cars rows n0 := by
      rcases hno with q | q
      · exact absurd (by rw [q]) hne
      · exact q
    obtain ⟨Cs, Hs, hcl, hs0, hfull⟩ := hno'
    refine ⟨_, rfl, _, rfl, _, rfl, (by show 1 ≤ sizeLine; decide), fun N hN => ?_⟩
    have B2 := B1.frm (Frm.new hN : Frm [] H1 (upd H1 N (.lst [iv n0])))
    refine ⟨L, cas, cars, R, ras, rows, N, n0, rfl, B2.C, B2.R, upd_same, lt_of_ix hc0, B.cl, B.rl, B.win, B.mem, fun H3 Z A1 B1' hs f3 hZ hA hh => ?_⟩
    have B3 := B2.frm f3
    have f13 : Frm [] H H3 := (f1.trans (Frm.new hN)).trans f3
    refine ⟨Z, _, 0, _, rfl, rfl, SqL.of hZ, atI_nat (j := 0) rfl, A1, rfl, ⟨_, SqL.of hA⟩, for_list (K := K) (a := A1) (xs := hs.map iv) (fun i σ H' => ∃ v4, σ = [some (iv wd), some (.ref L), some (.ref R), some (iv n0), v4] ∧ H' = H3) ⟨none, rfl, rfl⟩ (fun i σ H' _ ⟨_, _, e⟩ => by rw [e]; exact SqL.of hA) ?_ ?_⟩
    · rintro i y σ H' hi ⟨v4, rfl, rfl⟩
      obtain ⟨h, hh', rfl⟩ := ix_map hi
      obtain ⟨h1, h2⟩ := hh h (List.mem_of_getElem? hh')
      have hr' : rows[h]? = some rows[h] := List.getElem?_eq_getElem h1
      generalize rows[h] = r at hr'
      obtain ⟨ra, hra, era⟩ := B3.R.row hr'
      have hf := hfull h (h2 Cs Hs hcl hs0)
      rw [rowAt_of hr'] at hf
      exact ⟨_, rfl, _, rfl, R, _, _, _, rfl, rfl, SqL.of B3.R.1, atI_nat (map_ix hra), ra, _, rfl, .inl (SqL.of era), _, rfl, _, _, rfl, rfl, _, rfl, ifdn (by rw [List.length_map]; omega) ⟨_, rfl, rfl⟩⟩
    · rintro σ H' ⟨v4, rfl, rfl⟩
      exact k H' f13
end
end Oc
-- L8
set_option Elab.async false
set_option linter.all false
set_option maxRecDepth 100000
set_option maxHeartbeats 4000000
/-! _law_is_chain, _law_chain_told. -/
namespace Oc
open PySem PySem.Spec PyProof.Rows L2
/-- a list of pairs -/
def PairsL (H : Hp) (Z : Addr) (as : List Addr) (ps : List (Nat × Nat)) : Prop := H Z = some (.lst (refs as)) ∧ Objs H as (ps.map pairO)
theorem PairsL.frm {H H' : Hp} {Z : Addr} {as : List Addr} {ps : List (Nat × Nat)} (h : PairsL H Z as ps) (f : Frm [] H H') : PairsL H' Z as ps := ⟨f.at h.1 (by simp), h.2.frmT f⟩
theorem PairsL.len {H : Hp} {Z : Addr} {as : List Addr} {ps : List (Nat × Nat)} (h : PairsL H Z as ps) : (refs as).length = ps.length := by rw [List.length_map, h.2.1, List.length_map]
theorem PairsL.at {H : Hp} {Z : Addr} {as : List Addr} {ps : List (Nat × Nat)} (h : PairsL H Z as ps) {i : Nat} {p : Nat × Nat} (e : ps[i]? = some p) : ∃ a, as[i]? = some a ∧ H a = some (pairO p) := h.2.at (map_ix e)
theorem ChainOk.lens {wd : Nat} {cars : List Car} {rows : Rows} {n0 : Nat} {ps : List (Nat × Nat)} (h : ChainOk wd cars rows n0 ps) : 0 < ps.length ∧ ps.length ≤ cars.length := by
  obtain ⟨h0, e⟩ := h.hd
  refine ⟨lt_of_ix e, ?_⟩
  have q := nodup_len cars.length (ps.map (·.1)) h.ndc fun k hk => by
    obtain ⟨p, hp, rfl⟩ := List.mem_map.mp hk
    obtain ⟨⟨c, hc, _⟩, _⟩ := h.ok p hp
    exact lt_of_ix hc
  rwa [List.length_map] at q
theorem not_in_take {l : List Nat} (h : l.Nodup) {i k : Nat} (e : l[i]? = some k) : k ∉ l.take i := fun hm => by
  obtain ⟨j, hj, ej⟩ := List.getElem_of_mem hm
  rw [List.length_take] at hj
  have ej' : l[j]? = some k := by rw [List.getElem_take] at ej; rw [List.getElem?_eq_getElem (by omega), ej]
  have := nd_at h ej' e
  omega
section
variable {P : Program} {w : World} {K : PySem.W.Frag} {mg : Str → Option Value} {base : Heap}
def spIsChain : Sp := fun vs H Q _ => ∃ (wd : Nat) (L : Addr) (cas : List Addr) (cars : List Car) (R : Addr) (ras : List Addr) (rows : Rows) (Z : Addr) (as : List Addr) (ps : List (Nat × Nat)) (n0 : Nat) (c0 : Car), vs = [iv wd, .ref L, .ref R, .ref Z] ∧ Lists H L cas cars R ras rows ∧ cars[n0]? = some c0 ∧ gotN rows n0 ≠ c0.2.2 ∧ PairsL H Z as ps ∧ ChainOk wd cars rows n0 ps ∧ ∀ H', Frm [] H H' → Q (.bl true) H'
theorem scIsChain : FnScope ["_law_width", "_law_cars", "_law_rows", "_law_pairs", "_law_pair", "_law_k"] ["_law_width", "_law_cars", "_law_rows", "_law_pairs"] (defScope sIsChain) := ⟨rfl, rfl, rfl, by decide +kernel, rfl, by decide +kernel, by decide +kernel⟩
theorem d_ischain {f : Addr} {fd : FuncData} (F : Fun K "_law_is_chain" "_law_is_chain" sIsChain f fd) (g : mg "_law_is_chain" = some (.ref f)) (T : Txt K mg) (DG : DGotL P w K mg base) (DT : DThere P w K mg base) : DefAt P w K mg base CX0 2 "_law_is_chain" ["_law_width", "_law_cars", "_law_rows", "_law_pairs"] spIsChain := by
  have nd := scIsChain.nd
  refine ⟨f, fd, F.ok scIsChain (fun vs H Q E h => ?_) (fun cdv A outer s H vs Q E hr h => ?_), g, F.kp, F.binds fun _ _ _ _ _ _ us hl => match us, hl with | [_, _, _, _], _ => rfl⟩
  · obtain ⟨_, _, _, _, _, _, _, _, _, _, _, _, rfl, _⟩ := h
    rfl
  · obtain ⟨wd, L, cas, cars, R, ras, rows, Z, as, ps, n0, c0, rfl, B, hc0, hne, hZ, hch, k⟩ := h
    refine ⟨_, (pss_cons (ps_if (pt_cmpR op_eq (pe_callB call_len_seq (by rfl) T.len PySem.boot_len (pa_cons (pv 3) pa_nil)) pe_int (nomark _))
        (pss_one (ps_ret pe_bl))
        pss_nil)
      (pss_cons (ps_for PassesOwn.never rfl (pi_list (pv 3)) (pg_name (i := 4) nd rfl (.inl rfl))
        (pss_cons (ps_if (PW.pt (pw_or (pt_cmpR op_notIn_rng (pe_ix ix_tup (pv 4) pe_int (fun _ _ => rfl)) (pe_callTy cr_range1 (by rfl) T.range (by decide +kernel) (pa_cons (pe_callB call_len_seq (by rfl) T.len PySem.boot_len (pa_cons (pv 1) pa_nil)) pa_nil)) (by rfl)) (pw_or1 (pt_cmpR op_notIn_rng (pe_ix ix_tup (pv 4) pe_int (fun _ _ => rfl)) (pe_callTy cr_range1 (by rfl) T.range (by decide +kernel) (pa_cons (pe_callB call_len_seq (by rfl) T.len PySem.boot_len (pa_cons (pv 2) pa_nil)) pa_nil)) (by rfl)))))
          (pss_one (ps_ret pe_bl))
          pss_nil)
        (pss_one (ps_if (PW.pt (pw_or (pt_not (pt_val (pe_def DT hr pass0 (pa_cons (pe_ix ix_list (pv 1) (pe_ix ix_tup (pv 4) pe_int (fun _ _ => rfl)) (fun _ _ => rfl)) (pa_cons (pe_ix ix_tup (pv 4) pe_int (fun _ _ => rfl)) pa_nil))))) (pw_or1 (pt_cmpR op_in_seq (pe_ix ix_tup (pv 4) pe_int (fun _ _ => rfl)) (pe_ix ix_list (pv 2) (pe_ix ix_tup (pv 4) pe_int (fun _ _ => rfl)) (fun _ _ => rfl)) (by rfl)))))
          (pss_one (ps_ret pe_bl))
          pss_nil))))
      (pss_cons (ps_for PassesOwn.never rfl (pi_range2 rfl T.range (pa_cons pe_int (pa_cons (pe_callB call_len_seq (by rfl) T.len PySem.boot_len (pa_cons (pv 3) pa_nil)) pa_nil))) (pg_name (i := 5) nd rfl (.inl rfl))
        (pss_cons (ps_if (pt_cmpR op_notIn_seq (pe_ix ix_tup (pe_ix ix_list (pv 3) (pv 5) (fun _ _ => rfl)) pe_int (fun _ _ => rfl)) (pe_ix ix_list (pv 2) (pe_ix ix_tup (pe_ix ix_list (pv 3) (pe_op op_sub (pv 5) pe_int) (fun _ _ => rfl)) pe_int (fun _ _ => rfl)) (fun _ _ => rfl)) (by rfl))
          (pss_one (ps_ret pe_bl))
          pss_nil)
        (pss_one (ps_if (PW.pt (pw_or (pt_cmpR op_in_seq (pe_ix ix_tup (pe_ix ix_list (pv 3) (pv 5) (fun _ _ => rfl)) pe_int (fun _ _ => rfl)) (pe_lc (own := [("_law_pair", 4)]) (g := gName 4) rfl nd (pi_list (pe_slice sl_list (pv 3) po_none (po_some (pv 5)))) (blkOk_by (own := [("_law_pair", 4)]) (N := ["_law_width", "_law_cars", "_law_rows", "_law_pairs", "_law_pair", "_law_k"]) (sc := defScope sIsChain) (by decide +kernel)) (fun _ _ _ _ _ => pg_name (i := 4) nd rfl (Or.inl rfl)) (fun _ _ _ _ _ => pts_nil) (fun _ _ _ _ _ => (pe_ix (ix_tupK K) (pv 4) pe_int (fun _ _ => rfl)))) (by rfl)) (pw_or1 (pt_cmpR op_in_seq (pe_ix ix_tup (pe_ix ix_list (pv 3) (pv 5) (fun _ _ => rfl)) pe_int (fun _ _ => rfl)) (pe_lc (own := [("_law_pair", 4)]) (g := gName 4) rfl nd (pi_list (pe_slice sl_list (pv 3) po_none (po_some (pv 5)))) (blkOk_by (own := [("_law_pair", 4)]) (N := ["_law_width", "_law_cars", "_law_rows", "_law_pairs", "_law_pair", "_law_k"]) (sc := defScope sIsChain) (by decide +kernel)) (fun _ _ _ _ _ => pg_name (i := 4) nd rfl (Or.inl rfl)) (fun _ _ _ _ _ => pts_nil) (fun _ _ _ _ _ => (pe_ix (ix_tupK K) (pv 4) pe_int (fun _ _ => rfl)))) (by rfl)))))
          (pss_one (ps_ret pe_bl))
          pss_nil))))
      (pss_cons (ps_if (pt_cmpR op_eq (pe_def DG hr pass0 (pa_cons (pv 2) (pa_cons (pe_ix ix_tup (pe_ix ix_list (pv 3) pe_int (fun _ _ => rfl)) pe_int (fun _ _ => rfl)) pa_nil))) (pe_ix ix_tup (pe_ix ix_list (pv 1) (pe_ix ix_tup (pe_ix ix_list (pv 3) pe_int (fun _ _ => rfl)) pe_int (fun _ _ => rfl)) (fun _ _ => rfl)) pe_int (fun _ _ => rfl)) (nomark _))
        (pss_one (ps_ret pe_bl))
        pss_nil)
      (pss_one (ps_ret (pe_cmpR op_lt (pe_callB call_len_seq (by rfl) T.len PySem.boot_len (pa_cons (pe_ix ix_list (pv 2) (pe_ix ix_tup (pe_ix ix_list (pv 3) (pe_op op_sub (pe_callB call_len_seq (by rfl) T.len PySem.boot_len (pa_cons (pv 3) pa_nil)) pe_int) (fun _ _ => rfl)) pe_int (fun _ _ => rfl)) (fun _ _ => rfl)) pa_nil)) (pv 0) (nomark _)))))))), ?_⟩
    obtain ⟨l0, l1⟩ := hch.lens
    have hcl := B.cl
    have hrl := B.rl
    refine ⟨_, rfl, Z, _, rfl, .inl (SqL.of hZ.1), rfl, _, rfl, ifdn (fun q => ?_) ?_⟩
    · have := V.int.inj q
      rw [hZ.len] at this
      omega
    refine ⟨_, rfl, Z, rfl, ⟨_, SqL.of hZ.1⟩, for_list (K := K) (a := Z) (xs := refs as) (fun i σ H' => ∃ v4, σ = [some (iv wd), some (.ref L), some (.ref R), some (.ref Z), v4, none] ∧ Frm [] H H') ⟨none, rfl, Frm.refl⟩ (fun i σ H' _ ⟨_, _, f⟩ => SqL.of (hZ.frm f).1) ?_ ?_⟩
    · rintro i y σ H1 hi ⟨v4, rfl, f1⟩
      obtain ⟨a, ha, rfl⟩ := ix_map hi
      obtain ⟨o, ho, ea⟩ := hZ.2.of ha
      obtain ⟨p, hp, rfl⟩ := ix_map ho
      obtain ⟨⟨c, hc, c1, c2⟩, p2, pn⟩ := hch.ok p (List.mem_of_getElem? hp)
      have hcx := lt_of_ix hc
      have B1 := B.frm f1
      have ea1 := f1.tup ea
      refine ⟨_, rfl, a, _, 0, _, rfl, rfl, SqT.of ea1, atI_nat (j := 0) rfl, ?_⟩
      refine ⟨_, rfl, L, _, rfl, .inl (SqL.of B1.C.1), _, rfl, fun g1 hg1 => ?_⟩
      refine ⟨_, g1, _, _, rfl, rfl, upd_same, _, rfl, ?_⟩
      rw [B1.C.len]
      refine iteNS ⟨by omega, by omega⟩ ?_
      have f2 : Frm [] H (upd H1 g1 (.rng 0 (cars.length : Nat))) := f1.trans (Frm.new hg1)
      have B2 := B.frm f2
      have ea2 := f2.tup ea
      refine ⟨_, rfl, a, _, 1, _, rfl, rfl, SqT.of ea2, atI_nat (j := 1) rfl, ?_⟩
      refine ⟨_, rfl, R, _, rfl, .inl (SqL.of B2.R.1), _, rfl, fun g2 hg2 => ?_⟩
      refine ⟨_, g2, _, _, rfl, rfl, upd_same, _, rfl, ?_⟩
      rw [B2.R.len]
      refine iteNS ⟨by omega, by omega⟩ ?_
      have f3 : Frm [] H (upd (upd H1 g1 (.rng 0 (cars.length : Nat))) g2 (.rng 0 (rows.length : Nat))) := f2.trans (by rw [← B2.R.len]; rw [B2.R.len]; exact Frm.new hg2)
      generalize upd (upd H1 g1 (.rng 0 (cars.length : Nat))) g2 (.rng 0 (rows.length : Nat)) = H3 at f3
      have B3 := B.frm f3
      have ea3 := f3.tup ea
      obtain ⟨ca, hca, eca⟩ := B3.C.car hc
      have hr' : rows[p.2]? = some rows[p.2] := List.getElem?_eq_getElem p2
      generalize rows[p.2] = r at hr'
      obtain ⟨ra, hra, era⟩ := B3.R.row hr'
      rw [rowAt_of hr'] at pn
      refine ⟨_, rfl, _, rfl, a, _, 0, _, rfl, rfl, SqT.of ea3, atI_nat (j := 0) rfl, L, _, _, _, rfl, rfl, SqL.of B3.C.1, atI_nat (map_ix hca), _, rfl, a, _, 1, _, rfl, rfl, SqT.of ea3, atI_nat (j := 1) rfl, ca, c, p.2, rfl, eca, _, rfl, iteNS ⟨c1, c2⟩ ?_⟩
      refine ⟨_, rfl, a, _, 0, _, rfl, rfl, SqT.of ea3, atI_nat (j := 0) rfl, _, rfl, _, rfl, a, _, 1, _, rfl, rfl, SqT.of ea3, atI_nat (j := 1) rfl, R, _, _, _, rfl, rfl, SqL.of B3.R.1, atI_nat (map_ix hra), ra, _, rfl, .inl (SqL.of era), rfl, flat_iv r, _, rfl, ?_⟩
      show if inV (iv p.1) (r.map iv) = true then _ else _
      rw [inV_iv]
      exact ifdn pn ⟨_, rfl, f3⟩
    · rintro σ H1 ⟨v4, rfl, f1⟩
      have hZ1 := hZ.frm f1
      have en : (((refs as).length : Nat) - (1 : Int)).toNat = ps.length - 1 := by rw [hZ1.len]; omega
      refine ⟨_, rfl, Z, _, rfl, .inl (SqL.of hZ1.1), 1, ((refs as).length : Nat), rfl, ⟨by omega, by omega, by omega, by rw [hZ1.len]; omega⟩, ?_⟩
      rw [en]
      refine for_range (lo := 1) (n := ps.length - 1) (fun i σ H' => ∃ v5, σ = [some (iv wd), some (.ref L), some (.ref R), some (.ref Z), v4, v5] ∧ Frm [] H H') ⟨none, rfl, f1⟩ ?_ ?_
      · rintro i σ H2 hi ⟨v5, rfl, f2⟩
        rw [show V.int ((1 : Int) + (i : Int)) = iv (1 + i) from rfl]
        have hp : ps[i]? = some ps[i] := List.getElem?_eq_getElem (by omega)
        have hq : ps[1 + i]? = some ps[1 + i] := List.getElem?_eq_getElem (by omega)
        generalize ps[i] = p at hp
        generalize ps[1 + i] = q at hq
        have hlink := hch.link i p q hp (by rw [Nat.add_comm]; exact hq)
        obtain ⟨_, p2, _⟩ := hch.ok p (List.mem_of_getElem? hp)
        have hr' : rows[p.2]? = some rows[p.2] := List.getElem?_eq_getElem p2
        generalize rows[p.2] = r at hr'
        rw [rowAt_of hr'] at hlink
        have hZ2 := hZ.frm f2
        have B2 := B.frm f2
        obtain ⟨ap, hap, eap⟩ := hZ2.at hp
        obtain ⟨aq, haq, eaq⟩ := hZ2.at hq
        obtain ⟨ra, hra, era⟩ := B2.R.row hr'
        refine ⟨_, rfl, _, rfl, Z, _, _, _, rfl, rfl, SqL.of hZ2.1, atI_nat (map_ix haq), aq, _, 0, _, rfl, rfl, SqT.of eaq, atI_nat (j := 0) rfl, ?_⟩
        refine ⟨_, rfl, _, rfl, _, rfl, _, _, rfl, rfl, Z, _, _, _, rfl, rfl, SqL.of hZ2.1, (by rw [show ((1 + i : Nat) : Int) - 1 = (i : Int) by omega]; exact atI_nat (map_ix hap)), ap, _, 1, _, rfl, rfl, SqT.of eap, atI_nat (j := 1) rfl, R, _, _, _, rfl, rfl, SqL.of B2.R.1, atI_nat (map_ix hra), ra, _, rfl, .inl (SqL.of era), rfl, flat_iv r, _, rfl, ?_⟩
        show if (!inV (iv q.1) (r.map iv)) = true then _ else _
        rw [inV_iv]
        refine iteNS hlink ?_
        obtain ⟨aq', haq', eaq0⟩ := hZ.at hq
        rw [haq] at haq'
        cases haq'
        refine ⟨_, rfl, _, rfl, Z, _, _, _, rfl, rfl, SqL.of hZ2.1, atI_nat (map_ix haq), aq, _, 0, _, rfl, rfl, SqT.of (f2.tup eaq0), atI_nat (j := 0) rfl, ?_⟩
        refine ⟨_, rfl, _, rfl, _, rfl, Z, _, rfl, SqL.of hZ2.1, fun S1 hS1 => ⟨S1, rfl, ⟨_, SqL.of upd_same⟩, fun D1 hD1 => ?_⟩⟩
        rw [cutTo] at hD1 ⊢
        have fS1 : Frm [] H (upd H2 S1 (.lst ((refs as).take (1 + i)))) := f2.trans (Frm.new hS1)
        have eS1 : (upd H2 S1 (.lst ((refs as).take (1 + i)))) S1 = some (.lst ((refs as).take (1 + i))) := upd_same
        generalize upd H2 S1 (.lst ((refs as).take (1 + i))) = G1 at hD1 fS1 eS1 ⊢
        refine lc_list (K := K) (a := S1) (xs := (refs as).take (1 + i)) (fun m H' => H' = upd G1 D1 (.lst (((ps.take m).map (·.1)).map iv))) rfl (fun m H' _ e => by rw [e]; exact SqL.of (by rw [upd_ne (ne_of_none eS1 hD1)]; exact eS1)) ?_ ?_
        · rintro m y H' hm rfl
          have hm' : m < 1 + i := by have := lt_of_ix hm; rw [List.length_take] at this; omega
          rw [List.getElem?_take_of_lt hm'] at hm
          obtain ⟨b, hb, rfl⟩ := ix_map hm
          obtain ⟨o, ho, eb⟩ := hZ.2.of hb
          obtain ⟨x, hx, rfl⟩ := ix_map ho
          have ebD : upd G1 D1 (.lst (((ps.take m).map (·.1)).map iv)) b = some (pairO x) := by rw [upd_ne (ne_of_none (fS1.tup eb) hD1)]; exact fS1.tup eb
          have hml := lt_of_ix hx
          refine ⟨rfl, yes_ ?_⟩
          refine ⟨_, rfl, b, _, 0, _, rfl, rfl, SqT.of ebD, atI_nat (j := 0) rfl, _, upd_same, small1000 (by rw [List.length_map, List.length_map, List.length_take]; omega), ?_⟩
          rw [upd_upd, take_ix hx, List.map_append, List.map_append]
          rfl
        rintro H' rfl
        have hlt1 : ((refs as).take (1 + i)).length = 1 + i := by rw [List.length_take, hZ.len]; omega
        rw [hlt1]
        have fD1 : Frm [] H (upd G1 D1 (.lst (((ps.take (1 + i)).map (·.1)).map iv))) := fS1.trans (Frm.new hD1)
        have eD1 : (upd G1 D1 (.lst (((ps.take (1 + i)).map (·.1)).map iv))) D1 = some (.lst (((ps.take (1 + i)).map (·.1)).map iv)) := upd_same
        generalize upd G1 D1 (.lst (((ps.take (1 + i)).map (·.1)).map iv)) = M1 at fD1 eD1 ⊢
        refine ⟨D1, _, rfl, .inl (SqL.of eD1), rfl, flat_iv _, _, rfl, ?_⟩
        show if inV (iv q.1) (((ps.take (1 + i)).map (·.1)).map iv) = true then _ else _
        rw [inV_iv, List.map_take]
        refine ifdn (not_in_take hch.ndc (map_ix hq)) ?_
        have hZm := hZ.frm fD1
        refine ⟨_, rfl, _, rfl, Z, _, _, _, rfl, rfl, SqL.of hZm.1, atI_nat (map_ix haq), aq, _, 1, _, rfl, rfl, SqT.of (fD1.tup eaq0), atI_nat (j := 1) rfl, ?_⟩
        refine ⟨_, rfl, _, rfl, _, rfl, Z, _, rfl, SqL.of hZm.1, fun S2 hS2 => ⟨S2, rfl, ⟨_, SqL.of upd_same⟩, fun D2 hD2 => ?_⟩⟩
        rw [cutTo] at hD2 ⊢
        have fS2 : Frm [] H (upd M1 S2 (.lst ((refs as).take (1 + i)))) := fD1.trans (Frm.new hS2)
        have eS2 : (upd M1 S2 (.lst ((refs as).take (1 + i)))) S2 = some (.lst ((refs as).take (1 + i))) := upd_same
        generalize upd M1 S2 (.lst ((refs as).take (1 + i))) = G2 at hD2 fS2 eS2 ⊢
        refine lc_list (K := K) (a := S2) (xs := (refs as).take (1 + i)) (fun m H' => H' = upd G2 D2 (.lst (((ps.take m).map (·.2)).map iv))) rfl (fun m H' _ e => by rw [e]; exact SqL.of (by rw [upd_ne (ne_of_none eS2 hD2)]; exact eS2)) ?_ ?_
        · rintro m y H' hm rfl
          have hm' : m < 1 + i := by have := lt_of_ix hm; rw [List.length_take] at this; omega
          rw [List.getElem?_take_of_lt hm'] at hm
          obtain ⟨b, hb, rfl⟩ := ix_map hm
          obtain ⟨o, ho, eb⟩ := hZ.2.of hb
          obtain ⟨x, hx, rfl⟩ := ix_map ho
          have ebD : upd G2 D2 (.lst (((ps.take m).map (·.2)).map iv)) b = some (pairO x) := by rw [upd_ne (ne_of_none (fS2.tup eb) hD2)]; exact fS2.tup eb
          have hml := lt_of_ix hx
          refine ⟨rfl, yes_ ?_⟩
          refine ⟨_, rfl, b, _, 1, _, rfl, rfl, SqT.of ebD, atI_nat (j := 1) rfl, _, upd_same, small1000 (by rw [List.length_map, List.length_map, List.length_take]; omega), ?_⟩
          rw [upd_upd, take_ix hx, List.map_append, List.map_append]
          rfl
        rintro H' rfl
        have hlt2 : ((refs as).take (1 + i)).length = 1 + i := by rw [List.length_take, hZ.len]; omega
        rw [hlt2]
        have fD2 : Frm [] H (upd G2 D2 (.lst (((ps.take (1 + i)).map (·.2)).map iv))) := fS2.trans (Frm.new hD2)
        have eD2 : (upd G2 D2 (.lst (((ps.take (1 + i)).map (·.2)).map iv))) D2 = some (.lst (((ps.take (1 + i)).map (·.2)).map iv)) := upd_same
        generalize upd G2 D2 (.lst (((ps.take (1 + i)).map (·.2)).map iv)) = M2 at fD2 eD2 ⊢
        refine ⟨D2, _, rfl, .inl (SqL.of eD2), rfl, flat_iv _, _, rfl, ?_⟩
        show if inV (iv q.2) (((ps.take (1 + i)).map (·.2)).map iv) = true then _ else _
        rw [inV_iv, List.map_take]
        exact ifdn (not_in_take hch.ndh (map_ix hq)) ⟨_, rfl, fD2⟩
      · rintro σ H2 ⟨v5, rfl, f2⟩
        have hZ2 := hZ.frm f2
        have B2 := B.frm f2
        obtain ⟨h0, e0⟩ := hch.hd
        obtain ⟨a0, ha0, ea0⟩ := hZ2.at e0
        have hl1 : ps[ps.length - 1]? = some ps[ps.length - 1] := List.getElem?_eq_getElem (by omega)
        generalize hpl : ps[ps.length - 1] = p at hl1
        have hlast := hch.last p (by rw [List.getLast?_eq_getElem?]; exact hl1)
        obtain ⟨_, p2, _⟩ := hch.ok p (List.mem_of_getElem? hl1)
        refine ⟨_, rfl, _, rfl, Z, _, 0, _, rfl, rfl, SqL.of hZ2.1, atI_nat (j := 0) (map_ix ha0), a0, _, 0, _, rfl, rfl, SqT.of ea0, atI_nat (j := 0) rfl, R, ras, rows, n0, rfl, B2.R, by omega, fun H3 f3 => ?_⟩
        have f23 := f2.trans f3
        have hZ3 := hZ.frm f23
        have B3 := B.frm f23
        obtain ⟨c0a, hc0a, ec0a⟩ := B3.C.car hc0
        obtain ⟨a1, ha1, ea1⟩ := hZ3.at e0
        refine ⟨_, rfl, _, rfl, Z, _, 0, _, rfl, rfl, SqL.of hZ3.1, atI_nat (j := 0) (map_ix ha1), a1, _, 0, _, rfl, rfl, SqT.of ea1, atI_nat (j := 0) rfl, L, _, _, _, rfl, rfl, SqL.of B3.C.1, atI_nat (map_ix hc0a), c0a, _, 2, _, rfl, rfl, SqT.of ec0a, atI_nat (j := 2) rfl, rfl, _, rfl, ifdn (fun q => ?_) ?_⟩
        · have := V.int.inj q
          omega
        have hr' : rows[p.2]? = some rows[p.2] := List.getElem?_eq_getElem p2
        generalize rows[p.2] = r at hr'
        obtain ⟨ra, hra, era⟩ := B3.R.row hr'
        obtain ⟨al, hal, eal⟩ := hZ3.at hl1
        rw [rowAt_of hr'] at hlast
        refine ⟨_, rfl, _, rfl, _, rfl, Z, _, rfl, .inl (SqL.of hZ3.1), _, _, rfl, rfl, Z, _, _, _, rfl, rfl, SqL.of hZ3.1, (by rw [hZ3.len, show ((ps.length : Nat) : Int) - 1 = ((ps.length - 1 : Nat) : Int) by omega]; exact atI_nat (map_ix hal)), al, _, 1, _, rfl, rfl, SqT.of eal, atI_nat (j := 1) rfl, R, _, _, _, rfl, rfl, SqL.of B3.R.1, atI_nat (map_ix hra), ra, _, rfl, .inl (SqL.of era), _, rfl, _, _, rfl, rfl, ?_⟩
        rw [List.length_map]
        show Q (V.bl (decide ((r.length : Int) < (wd : Int)))) H3
        rw [decide_eq_true (show (r.length : Int) < (wd : Int) by omega)]
        exact k H3 f23
/-! ### _law_chain_told -/
abbrev DIsChain (P : Program) (w : World) (K : PySem.W.Frag) (mg : Str → Option Value) (base : Heap) : Prop := DefAt P w K mg base CX0 2 "_law_is_chain" ["_law_width", "_law_cars", "_law_rows", "_law_pairs"] spIsChain
def spChainTold : Sp := fun vs H Q _ => ∃ (wd : Nat) (L : Addr) (cas : List Addr) (cars : List Car) (R : Addr) (ras : List Addr) (rows : Rows) (Z : Addr) (as : List Addr) (ps : List (Nat × Nat)) (n0 : Nat) (c0 : Car), vs = [iv wd, .ref L, .ref R, iv n0, .ref Z] ∧ Lists H L cas cars R ras rows ∧ cars[n0]? = some c0 ∧ gotN rows n0 ≠ c0.2.2 ∧ PairsL H Z as ps ∧ ChainOk wd cars rows n0 ps ∧ ∀ H', Frm [] H H' → Q (.bl true) H'
theorem scChainTold : FnScope ["_law_width", "_law_cars", "_law_rows", "_law_number", "_law_told", "_law_pair", "_law_part"] ["_law_width", "_law_cars", "_law_rows", "_law_number", "_law_told"] (defScope sChainTold) := ⟨rfl, rfl, rfl, by decide +kernel, rfl, by decide +kernel, by decide +kernel⟩
theorem d_chaintold {f : Addr} {fd : FuncData} (F : Fun K "_law_chain_told" "_law_chain_told" sChainTold f fd) (g : mg "_law_chain_told" = some (.ref f)) (T : Txt K mg) (D : DIsChain P w K mg base) : DefAt P w K mg base CX0 3 "_law_chain_told" ["_law_width", "_law_cars", "_law_rows", "_law_number", "_law_told"] spChainTold := by
  have nd := scChainTold.nd
  refine ⟨f, fd, F.ok scChainTold (fun vs H Q E h => ?_) (fun cdv A outer s H vs Q E hr h => ?_), g, F.kp, F.binds fun _ _ _ _ _ _ us hl => match us, hl with | [_, _, _, _, _], _ => rfl⟩
  · obtain ⟨_, _, _, _, _, _, _, _, _, _, _, _, rfl, _⟩ := h
    rfl
  · obtain ⟨wd, L, cas, cars, R, ras, rows, Z, as, ps, n0, c0, rfl, B, hc0, hne, hZ, hch, k⟩ := h
    refine ⟨_, (pss_cons (ps_if (PW.pt (pw_or (pt_not (pt_val (pe_callB call_isi (by rfl) T.isinst (by decide +kernel) (pa_cons (pv 4) (pa_cons (pe_bltn (v := .ty "list") (by rfl) T.list (by decide +kernel) rfl) pa_nil))))) (pw_or1 (pt_cmpR op_eq (pe_callB call_len_seq (by rfl) T.len PySem.boot_len (pa_cons (pv 4) pa_nil)) pe_int (nomark _)))))
        (pss_one (ps_ret pe_bl))
        pss_nil)
      (pss_cons (ps_for PassesOwn.never rfl (pi_list (pv 4)) (pg_name (i := 5) nd rfl (.inl rfl))
        (pss_cons (ps_if (PW.pt (pw_or (pt_not (pt_val (pe_callB call_isi (by rfl) T.isinst (by decide +kernel) (pa_cons (pv 5) (pa_cons (pe_bltn (v := .ty "tuple") (by rfl) T.tuple (by decide +kernel) rfl) pa_nil))))) (pw_or1 (pt_cmpR op_ne (pe_callB call_len_seq (by rfl) T.len PySem.boot_len (pa_cons (pv 5) pa_nil)) pe_int (nomark _)))))
          (pss_one (ps_ret pe_bl))
          pss_nil)
        (pss_one (ps_for PassesOwn.never rfl (pi_tup (pv 5)) (pg_name (i := 6) nd rfl (.inl rfl))
          (pss_one (ps_if (PW.pt (pw_or (pt_not (pt_val (pe_callB call_isi (by rfl) T.isinst (by decide +kernel) (pa_cons (pv 6) (pa_cons (pe_bltn (v := .ty "int") (by rfl) T.int (by decide +kernel) rfl) pa_nil))))) (pw_or1 (pt_val (pe_callB call_isi (by rfl) T.isinst (by decide +kernel) (pa_cons (pv 6) (pa_cons (pe_bltn (v := .ty "bool") (by rfl) T.bool (by decide +kernel) rfl) pa_nil)))))))
            (pss_one (ps_ret pe_bl))
            pss_nil))))))
      (pss_one (ps_ret (pe_and (pe_cmpR op_eq (pe_ix ix_tup (pe_ix ix_list (pv 4) pe_int (fun _ _ => rfl)) pe_int (fun _ _ => rfl)) (pv 3) (nomark _)) (pe_one (pe_def D hr pass0 (pa_cons (pv 0) (pa_cons (pv 1) (pa_cons (pv 2) (pa_cons (pv 4) pa_nil))))))))))), ?_⟩
    obtain ⟨l0, l1⟩ := hch.lens
    have il : PySem.W.kitOne K (.type "list") (.type "list") = some true := kit_ty rfl
    have it : PySem.W.kitOne K (.type "tuple") (.type "tuple") = some true := kit_ty rfl
    have ii : PySem.W.kitOne K (.type "int") (.type "int") = some true := kit_ty rfl
    have ib : PySem.W.kitOne K (.type "int") (.type "bool") = some false := kit_ty rfl
    refine ⟨_, rfl, _, _, _, _, _, rfl, .ty _, .base (.lst hZ.1), il, _, rfl, iteF ?_⟩
    refine ⟨_, rfl, Z, _, rfl, .inl (SqL.of hZ.1), rfl, _, rfl, ifdn (fun q => ?_) ?_⟩
    · have := V.int.inj q
      rw [hZ.len] at this
      omega
    refine ⟨_, rfl, Z, rfl, ⟨_, SqL.of hZ.1⟩, for_list (K := K) (a := Z) (xs := refs as) (fun i σ H' => ∃ v5 v6, σ = [some (iv wd), some (.ref L), some (.ref R), some (iv n0), some (.ref Z), v5, v6] ∧ H' = H) ⟨none, none, rfl, rfl⟩ (fun i σ H' _ ⟨_, _, _, e⟩ => by rw [e]; exact SqL.of hZ.1) ?_ ?_⟩
    · rintro i y σ H1 hi ⟨v5, v6, rfl, rfl⟩
      obtain ⟨a, ha, rfl⟩ := ix_map hi
      obtain ⟨o, ho, ea⟩ := hZ.2.of ha
      obtain ⟨p, hp, rfl⟩ := ix_map ho
      refine ⟨_, rfl, _, _, _, _, _, rfl, .ty _, .base (.tup ea), it, _, rfl, iteF ?_⟩
      refine ⟨_, rfl, a, _, rfl, .inr (SqT.of ea), rfl, _, rfl, ?_⟩
      refine iteF ?_
      refine ⟨_, rfl, a, rfl, ⟨_, SqT.of ea⟩, for_tup (K := K) (a := a) (xs := [iv p.1, iv p.2]) (fun j σ H2 => ∃ v6, σ = [some (iv wd), some (.ref L), some (.ref R), some (iv n0), some (.ref Z), some (.ref a), v6] ∧ H2 = H1) ⟨_, rfl, rfl⟩ (fun j σ H2 _ ⟨_, _, e⟩ => by rw [e]; exact SqT.of ea) ?_ ?_⟩
      · rintro j y σ H2 hj ⟨v6, rfl, rfl⟩
        obtain ⟨n, rfl⟩ : ∃ n : Nat, y = iv n := by
          have hm := List.mem_of_getElem? hj
          rcases List.mem_cons.mp hm with e | e
          · exact ⟨_, e⟩
          · exact ⟨_, List.mem_singleton.mp e⟩
        refine ⟨_, rfl, _, _, _, _, _, rfl, .ty _, .base (.int _), ii, _, rfl, iteF ?_⟩
        exact ⟨_, rfl, _, _, _, _, _, rfl, .ty _, .base (.int _), ib, _, rfl, iteF ⟨_, rfl, rfl⟩⟩
      · rintro σ H2 ⟨v6, rfl, rfl⟩
        exact ⟨_, _, rfl, rfl⟩
    · rintro σ H1 ⟨v5, v6, rfl, rfl⟩
      obtain ⟨h0, e0⟩ := hch.hd
      obtain ⟨a0, ha0, ea0⟩ := hZ.at e0
      refine ⟨_, rfl, Z, _, 0, _, rfl, rfl, SqL.of hZ.1, atI_nat (j := 0) (map_ix ha0), a0, _, 0, _, rfl, rfl, SqT.of ea0, atI_nat (j := 0) rfl, _, rfl, rfl, _, rfl, ifd rfl ?_⟩
      exact ⟨_, rfl, _, rfl, _, rfl, _, rfl, wd, L, cas, cars, R, ras, rows, Z, as, ps, n0, c0, rfl, B, hc0, hne, hZ, hch, k⟩
end
end Oc
-- L9
set_option Elab.async false
set_option linter.all false
set_option maxRecDepth 100000
set_option maxHeartbeats 4000000
/-! _law_planned, _law_reset. -/
namespace Oc
open PySem PySem.Spec PyProof.Rows L2
theorem strict_of {ns : List Nat} (ho : ns.Pairwise (· ≤ ·)) (hn : ns.Nodup) : ns.Pairwise (· < ·) := (ho.and hn).imp fun {a b} q => by have := q.1; have := q.2; omega
theorem sorted_perm {ns r : List Nat} (hp : ns.Perm r) (ho : ns.Pairwise (· ≤ ·)) (hr : r.Pairwise (· < ·)) : ns = r := sorted_eq (strict_of ho (hp.nodup_iff.mpr (nodup_of_lt hr))) hr fun k => hp.mem_iff
/-- the plan's rows after i hours were set -/
def rowsI (rows : Rows) (i : Nat) : Rows := rows.take i ++ List.replicate (rows.length - i) []
theorem rowsI_zero (rows : Rows) : rowsI rows 0 = List.replicate rows.length [] := by simp [rowsI]
theorem rowsI_all (rows : Rows) : rowsI rows rows.length = rows := by simp [rowsI]
theorem rowsI_len (rows : Rows) {i : Nat} (h : i ≤ rows.length) : (rowsI rows i).length = rows.length := by simp [rowsI]; omega
theorem rowsI_at (rows : Rows) {i : Nat} (h : i < rows.length) : (rowsI rows i)[i]? = some [] := by
  unfold rowsI
  rw [List.getElem?_append_right (by rw [List.length_take]; omega), List.length_take, Nat.min_eq_left (by omega), Nat.sub_self, List.getElem?_replicate, if_pos (by omega)]
theorem rowsI_set (rows : Rows) {i : Nat} {r : List Nat} (h : rows[i]? = some r) : (rowsI rows i).set i r = rowsI rows (i + 1) := by
  have hi := lt_of_ix h
  have hl : (rows.take i).length = i := by rw [List.length_take]; omega
  unfold rowsI
  rw [take_ix h, List.set_append_right _ _ (by omega), hl, Nat.sub_self, show rows.length - i = (rows.length - (i + 1)) + 1 by omega, List.replicate_succ, List.set_cons_zero, List.append_assoc]
  rfl
theorem gotN_rep (n k : Nat) : gotN (List.replicate n []) k = 0 := by
  induction n with
  | zero => rfl
  | succ n ih => rw [List.replicate_succ, gotN_cons, ih]; simp
theorem PlanOk.may {wd : Nat} {cars : List Car} {rows : Rows} {i : Nat} {r : List Nat} (B : PlanOk wd cars rows) (h : rows[i]? = some r) : MaySet wd cars (rowsI rows i) i r := by
  refine ⟨nodup_of_lt (B.ok.asc r (List.mem_of_getElem? h)), B.ok.wid r (List.mem_of_getElem? h), fun k hk => ?_⟩
  obtain ⟨c, hc, h1, h2⟩ := B.ok.win i r h k hk
  refine ⟨c, hc, h1, h2, ?_⟩
  have hi := lt_of_ix h
  have e1 := gotN_set (rowsI_at rows hi) [] k
  have e2 : gotN (rowsI rows i) k = gotN (rows.take i) k := by unfold rowsI; rw [gotN_append, gotN_rep]; rfl
  have e3 := gotN_take h k
  have e4 : gotN rows k = gotN (rows.take (i + 1)) k + gotN (rows.drop (i + 1)) k := by rw [← gotN_append, List.take_append_drop]
  have e5 := B.ok.need k c hc
  rw [if_pos hk] at e3
  omega
theorem Frm.drop1 {l : List Addr} {S : Addr} {H H1 H2 : Hp} (a : Frm l H H1) (b : Frm [S] H1 H2) (h : H S = none) : Frm l H H2 := fun c o e => by
  have nS : c ≠ S := ne_of_none e h
  rcases a c o e with q | ⟨hm, xs, ys, rfl, q⟩
  · exact .inl (b.at q (not1 nS))
  · exact .inr ⟨hm, xs, ys, rfl, b.at q (not1 nS)⟩
section
variable {P : Program} {w : World} {K : PySem.W.Frag} {mg : Str → Option Value} {base : Heap} {C CB : Addr}
/-! ### _law_planned -/
def spPlanned (C : Addr) : Sp := fun vs H Q _ => ∃ (wd : Nat) (L : Addr) (cas : List Addr) (cars : List Car) (R : Addr) (ras : List Addr) (rows : Rows), vs = [iv wd, .ref L, .ref R] ∧ CarsL H L cas cars ∧ RowsL H R ras rows ∧ PlanOk wd cars rows ∧ 1 ≤ wd ∧ wd ≤ 12 ∧ cars.length ≤ 14 ∧ (∀ c ∈ cars, CarOk c) ∧
  ∀ H' O T S has, Frm [] H H' → PlanAt C H' O T S wd cas cars has rows → H S = none → Q (.ref O) H'
theorem scPlanned : FnScope ["_law_width", "_law_cars", "_law_rows", "_law_plan", "_law_hour"] ["_law_width", "_law_cars", "_law_rows"] (defScope sPlanned) := ⟨rfl, rfl, rfl, by decide +kernel, rfl, by decide +kernel, by decide +kernel⟩
theorem d_planned {f fI : Addr} {fd fdI : FuncData} (F : Fun K "_law_planned" "_law_planned" sPlanned f fd) (g : mg "_law_planned" = some (.ref f)) (T : Txt K mg) (PC : PlanC K C) (M : Mk K C fI) (FI : FnOk P w K mg base CX0 4 fI fdI ["self", "width", "cars"] (spInit C)) (bI : Binds K fdI ["self", "width", "cars"] []) (gC : mg "Plan" = some (.ref C)) (D : MSetHour P w K mg base C) :
    DefAt P w K mg base CX0 6 "_law_planned" ["_law_width", "_law_cars", "_law_rows"] (spPlanned C) := by
  have nd := scPlanned.nd
  refine ⟨f, fd, F.ok scPlanned (fun vs H Q E h => ?_) (fun cdv A outer s H vs Q E hr h => ?_), g, F.kp, F.binds fun _ _ _ _ _ _ us hl => match us, hl with | [_, _, _], _ => rfl⟩
  · obtain ⟨_, _, _, _, _, _, _, rfl, _⟩ := h
    rfl
  · obtain ⟨wd, L, cas, cars, R, ras, rows, rfl, hC, hR, B, w1, w2, hl, hok, k⟩ := h
    refine ⟨_, (pss_cons (ps_set (i := 3) nd rfl (.inl rfl) (pe_make (dvs := []) M FI hr rfl gC bI .nil pass0 (pa_cons (pv 0) (pa_cons (pe_callTy call_list_of (by rfl) T.list (by decide +kernel) (pa_cons (pv 1) pa_nil)) pa_nil))))
      (pss_cons (ps_for PassesOwn.never rfl (pi_range1 rfl T.range (pa_cons (pe_callB call_len_seq (by rfl) T.len PySem.boot_len (pa_cons (pv 2) pa_nil)) pa_nil)) (pg_name (i := 4) nd rfl (.inl rfl))
        (pss_one (ps_expr (pe_mth D PC.cl hr pass0 (pv 3) (pa_cons (pv 4) (pa_cons (pe_callTy call_list_of (by rfl) T.list (by decide +kernel) (pa_cons (pe_ix ix_list (pv 2) (pv 4) (fun _ _ => rfl)) pa_nil)) pa_nil))))))
      (pss_one (ps_ret (pv 3))))), ?_⟩
    have h72 := hoursOf_72 hok
    have hrl := B.n
    refine ⟨_, rfl, _, rfl, L, _, rfl, .inl (SqL.of hC.1), fun L2 hL2 O dx hO hdx ndO => ?_⟩
    have f1 : Frm [] H (upd H L2 (.lst (refs cas))) := Frm.new hL2
    have nOL : O ≠ L2 := fun e => by rw [e, upd_same] at hO; cases hO
    have ndL : dx ≠ L2 := fun e => by rw [e, upd_same] at hdx; cases hdx
    have hL2' : upd H L2 (.lst (refs cas)) L2 = some (.lst (refs cas)) := upd_same
    generalize upd H L2 (.lst (refs cas)) = H1 at f1 hL2' hO hdx ⊢
    have f2 : Frm [] H1 (upd (upd H1 dx (.own O)) O (.ins C dx [])) := (Frm.new hdx).put hO
    have eO2 : upd (upd H1 dx (.own O)) O (.ins C dx []) O = some (.ins C dx []) := upd_same
    have hC2 : CarsL (upd (upd H1 dx (.own O)) O (.ins C dx [])) L2 cas cars := ⟨f2.at hL2' (by simp), (hC.frm f1 (by simp)).2.frmT f2⟩
    generalize upd (upd H1 dx (.own O)) O (.ins C dx []) = H2 at f2 eO2 hC2 ⊢
    refine ⟨O, dx, wd, L2, cas, cars, rfl, eO2, hC2, w1, w2, hl, hok, fun H3 Tt S has0 b3 hT hS hP3 => ⟨rfl, ?_⟩⟩
    have hS0 : H S = none := f1.free (f2.free hS)
    have hO0 : H O = none := f1.free hO
    have f3 : Frm [] H H3 := fun b o e => .inl (b3 b o (ne_of_none e hO0) ((f1.trans f2).same b o e))
    rw [← B.n, ← rowsI_zero] at hP3
    have hR3 := hR.frm f3 (by simp) (by simp)
    refine ⟨_, rfl, R, _, rfl, .inl (SqL.of hR3.1), rows.length, (by rw [hR3.len]), by omega, by omega, for_range (lo := 0) (n := rows.length) (fun i σ H' => ∃ has v4, σ = [some (iv wd), some (.ref L), some (.ref R), some (.ref O), v4] ∧ Frm [] H H' ∧ PlanAt C H' O Tt S wd cas cars has (rowsI rows i)) ⟨has0, none, rfl, f3, hP3⟩ ?_ ?_⟩
    · rintro i σ H4 hi ⟨has, v4, rfl, f4, hP4⟩
      rw [z0]
      have hr' : rows[i]? = some rows[i] := List.getElem?_eq_getElem hi
      generalize rows[i] = r at hr'
      have hR4 := hR.frm f4 (by simp) (by simp)
      obtain ⟨ra, hra, era⟩ := hR4.row hr'
      obtain ⟨dx4, eO4⟩ := hP4.ob
      refine ⟨_, rfl, O, dx4, _, rfl, eO4, pf_m (by simp), _, rfl, _, rfl, _, rfl, R, _, _, _, rfl, rfl, SqL.of hR4.1, atI_nat (map_ix hra), ra, _, rfl, .inl (SqL.of era), fun N hN => ?_⟩
      have f5 : Frm [] H (upd H4 N (.lst (r.map iv))) := f4.trans (Frm.new hN)
      have hP5 := hP4.frm (Frm.new hN : Frm [] H4 (upd H4 N (.lst (r.map iv)))) (by simp)
      refine ⟨O, Tt, S, wd, cas, cars, has, rowsI rows i, i, [], N, r, rfl, hP5, by rw [rowsI_len rows (by omega)]; omega, rowsI_at rows hi, upd_same, by omega, B.may hr', fun H6 has' ns' hp ho f6 hP6 => ?_⟩
      have e := sorted_perm hp ho (B.ok.asc r (List.mem_of_getElem? hr'))
      subst e
      rw [rowsI_set rows hr'] at hP6
      exact ⟨has', _, rfl, f5.drop1 f6 hS0, hP6⟩
    · rintro σ H4 ⟨has, v4, rfl, f4, hP4⟩
      rw [rowsI_all] at hP4
      exact ⟨_, rfl, k H4 O Tt S has f4 hP4 hS0⟩
end
end Oc
-- LA
set_option Elab.async false
set_option linter.all false
set_option maxRecDepth 100000
set_option maxHeartbeats 4000000
/-! _law_reset. -/
namespace Oc
open PySem PySem.Spec PyProof.Rows L2
theorem Frm.app {l l1 : List Addr} {H H1 H2 : Hp} (a : Frm l H H1) (b : Frm l1 H1 H2) (s1 : ∀ x ∈ l1, x ∈ l) : Frm l H H2 := a.trans (b.mono s1)
theorem RowsL.upd {H : Hp} {R Fl : Addr} {ras : List Addr} {rows : Rows} {h : Nat} {r : List Nat} (hR : RowsL H R ras rows) (hF : H Fl = some (rowO r)) (hn : Fl ≠ R) : RowsL (upd H R (.lst (refs (ras.set h Fl)))) R (ras.set h Fl) (rows.set h r) := by
  refine ⟨upd_same, ?_⟩
  rw [List.map_set]
  refine hR.2.set (by rw [upd_ne hn]; exact hF) fun b u hb e => ?_
  rw [upd_ne (hR.neR b hb)]
  exact e
theorem CarsL.neRows {H : Hp} {L R : Addr} {cas ras : List Addr} {cars : List Car} {rows : Rows} {h : Nat} {r : List Nat} (hC : CarsL H L cas cars) (hR : RowsL H R ras rows) (hr : rows[h]? = some r) : L ≠ R := fun e => by
  have q := hC.1
  rw [e, hR.1] at q
  have q2 := HO.lst.inj (Option.some.inj q)
  obtain ⟨a, ha, ea⟩ := hR.row hr
  have h1 : (refs cas)[h]? = some (.ref a) := by rw [← q2]; exact map_ix ha
  obtain ⟨b, hb, eb⟩ := ix_map h1
  obtain ⟨o, ho, eo⟩ := hC.2.of hb
  obtain ⟨c, _, rfl⟩ := ix_map ho
  rw [← V.ref.inj eb, ea] at eo
  cases eo
theorem ifl2 {c A B : Prop} [Decidable c] {G Rest : Hp → Prop} (hr : ∀ H, G H → Rest H) (h : (∀ H, G H → Rest H) → A) (h' : (∀ H, G H → Rest H) → B) : if decide c = true then A else B := ifl (fun _ => h hr) (fun _ => h' hr)
section
variable {P : Program} {w : World} {K : PySem.W.Frag} {mg : Str → Option Value} {base : Heap} {C CB : Addr}
abbrev DPicked (P : Program) (w : World) (K : PySem.W.Frag) (mg : Str → Option Value) (base : Heap) : Prop := DefAt P w K mg base CX0 2 "_law_picked" ["_law_pool_here", "_law_width", "_law_cars", "_law_rows", "_law_hour"] spPicked
abbrev MSetItem (P : Program) (w : World) (K : PySem.W.Frag) (mg : Str → Option Value) (base : Heap) (C : Addr) : Prop := MethAt P w K mg base CX0 6 C "__setitem__" ["self", "hour", "numbers"] (spSetHour C)
def spReset (C : Addr) : Sp := fun vs H Q _ => ∃ (p O T S : Addr) (wd : Nat) (L : Addr) (cas : List Addr) (cars : List Car) (R : Addr) (ras : List Addr) (rows : Rows) (pcas has : List Addr), vs = [.ref p, .ref O, iv wd, .ref L, .ref R] ∧ PoolAt H p ∧ CarsL H L cas cars ∧ RowsL H R ras rows ∧ PlanAt C H O T S wd pcas cars has rows ∧
  PlanOk wd cars rows ∧ wd ≤ 12 ∧ cars.length ≤ 14 ∧ (∀ c ∈ cars, CarOk c) ∧ R ≠ p ∧ S ≠ p ∧ (∀ a ∈ ras, a ≠ p) ∧ S ≠ L ∧ S ≠ R ∧ (∀ a ∈ ras, a ≠ S) ∧
  ∀ H' has' ras' rows', PlanOk wd cars rows' → Frm [p, S, R] H H' → PoolAt H' p → CarsL H' L cas cars → PlanAt C H' O T S wd pcas cars has' rows' → RowsL H' R ras' rows' → (∀ a ∈ ras', a ∈ ras ∨ H a = none) → Q .non H'
theorem scReset : FnScope ["_law_pool_here", "_law_plan", "_law_width", "_law_cars", "_law_rows", "_law_hour", "_law_picked_here", "_law_number"] ["_law_pool_here", "_law_plan", "_law_width", "_law_cars", "_law_rows"] (defScope sReset) := ⟨rfl, rfl, rfl, by decide +kernel, rfl, by decide +kernel, by decide +kernel⟩
theorem d_reset {f : Addr} {fd : FuncData} (F : Fun K "_law_reset" "_law_reset" sReset f fd) (g : mg "_law_reset" = some (.ref f)) (T : Txt K mg) (PC : PlanC K C) (D : DTake P w K mg base) (DP : DPicked P w K mg base) (MS : MSetHour P w K mg base C) (MI : MSetItem P w K mg base C) :
    DefAt P w K mg base CX0 7 "_law_reset" ["_law_pool_here", "_law_plan", "_law_width", "_law_cars", "_law_rows"] (spReset C) := by
  have nd := scReset.nd
  refine ⟨f, fd, F.ok scReset (fun vs H Q E h => ?_) (fun cdv A outer s H vs Q E hr h => ?_), g, F.kp, F.binds fun _ _ _ _ _ _ us hl => match us, hl with | [_, _, _, _, _], _ => rfl⟩
  · obtain ⟨_, _, _, _, _, _, _, _, _, _, _, _, _, rfl, _⟩ := h
    rfl
  · obtain ⟨p, O, Tt, S, wd, L, cas, cars, R, ras, rows, pcas, has, rfl, hp, hC, hR, hP, B, w2, hl, hok, nRp, nSp, rasp, nSL, nSR, rasS, k⟩ := h
    have hr1 : Room 1 _ := hr.mono (by decide)
    have hr2 : Room 2 _ := hr.mono (by decide)
    have hr5 : Room 5 _ := hr.mono (by decide)
    refine ⟨_, (pss_one (ps_if (pt_cmpR op_gt (pe_callB call_len_seq (by rfl) T.len PySem.boot_len (pa_cons (pv 4) pa_nil)) pe_int (nomark _))
        (pss_cons (ps_set (i := 5) nd rfl (.inl rfl) (pe_def D hr1 pass0 (pa_cons (pv 0) (pa_cons (pe_callB call_len_seq (by rfl) T.len PySem.boot_len (pa_cons (pv 4) pa_nil)) pa_nil))))
        (pss_cons (ps_set (i := 6) nd rfl (.inr rfl) (pe_def DP hr2 pass0 (pa_cons (pv 0) (pa_cons (pv 2) (pa_cons (pv 3) (pa_cons (pv 4) (pa_cons (pv 5) pa_nil)))))))
        (pss_cons (ps_if (pt_cmpR op_eq (pe_def D hr1 pass0 (pa_cons (pv 0) (pa_cons pe_int pa_nil))) pe_int (nomark _))
          (pss_one (ps_expr (pe_mth MS PC.cl hr5 pass0 (pv 1) (pa_cons (pv 5) (pa_cons (pe_callTy call_list_of (by rfl) T.list (by decide +kernel) (pa_cons (pv 6) pa_nil)) pa_nil)))))
          (pss_one (ps_asg (pe_callTy call_list_of (by rfl) T.list (by decide +kernel) (pa_cons (pv 6) pa_nil)) (pg_sub (pv 1) (pv 5) (set_own MI PC.noSeq hr pass0)))))
        (pss_one (ps_asg (pe_lc (own := [("_law_number", 7)]) (g := gName 7) rfl nd (pi_range1 rfl T.range (pa_cons (pe_callB call_len_seq (by rfl) T.len PySem.boot_len (pa_cons (pv 3) pa_nil)) pa_nil)) (blkOk_by (own := [("_law_number", 7)]) (N := ["_law_pool_here", "_law_plan", "_law_width", "_law_cars", "_law_rows", "_law_hour", "_law_picked_here", "_law_number"]) (sc := defScope sReset) (by decide +kernel)) (fun _ _ _ _ _ => pg_name (i := 7) nd rfl (Or.inl rfl)) (fun _ _ _ _ _ => pts_one (pt_cmpR (op_in_seqK K) (pv 7) (pv 6) (by rfl))) (fun _ _ _ _ _ => (pv 7))) (pg_sub (pv 4) (pv 5) set_list))))))
        pss_nil)), ?_⟩
    have h72 := hoursOf_72 hok
    have hrl := B.n
    have nLp := hC.ne hp
    refine ⟨_, rfl, R, _, rfl, .inl (SqL.of hR.1), _, _, rfl, rfl, _, rfl, ifl (fun hpos => ?_) (fun _ => k H has ras rows B Frm.refl hp hC hP hR fun a ha => .inl ha)⟩
    rw [hR.len] at hpos
    refine ⟨_, rfl, _, rfl, R, _, rfl, .inl (SqL.of hR.1), p, rows.length, (by rw [hR.len]; rfl), hp, by omega, by omega, fun H1 h hh f1 hp1 => ?_⟩
    have hC1 := hC.frm f1 (not1 nLp)
    have hR1 := hR.frm f1 (not1 nRp) (fun a ha => not1 (rasp a ha))
    have hP1 := hP.frm f1 (not1 nSp)
    have hr0 : rows[h]? = some rows[h] := List.getElem?_eq_getElem hh
    generalize rows[h] = r0 at hr0
    refine ⟨_, rfl, _, rfl, _, rfl, _, rfl, _, rfl, p, wd, L, cas, cars, R, ras, rows, h, r0, rfl, hp1, hC1, hR1, nRp, rasp, by omega, hl, by omega, hr0, fun H2 W ns hnd hwd hwin f2 hp2 hW0 hW => ?_⟩
    have f12 : Frm [p] H H2 := f1.trans f2
    have hWH : H W = none := f1.free hW0
    have hC2 := hC.frm f12 (not1 nLp)
    have hR2 := hR.frm f12 (not1 nRp) (fun a ha => not1 (rasp a ha))
    have hP2 := hP.frm f12 (not1 nSp)
    have hM : MaySet wd cars rows h ns := ⟨hnd, hwd, hwin⟩
    refine ⟨_, rfl, p, 2, rfl, hp2, by omega, by omega, fun H3 d3 hd3 f3 hp3 => ?_⟩
    have f13 : Frm [p] H H3 := f12.trans f3
    have hC3 := hC.frm f13 (not1 nLp)
    have hR3 := hR.frm f13 (not1 nRp) (fun a ha => not1 (rasp a ha))
    have hP3 := hP.frm f13 (not1 nSp)
    have nWp : W ≠ p := hp.ne hWH
    have hW3 := f3.at hW (not1 nWp)
    obtain ⟨dx, eO3⟩ := hP3.ob
    have hS0 : H S ≠ none := fun e => by rw [hP.hs] at e; cases e
    have nWS : W ≠ S := fun e => hS0 (e ▸ hWH)
    have lst : ∀ N, H3 N = none → Frm [p] H (upd H3 N (.lst (ns.map iv))) ∧ PoolAt (upd H3 N (.lst (ns.map iv))) p ∧ (upd H3 N (.lst (ns.map iv))) W = some (rowO ns) ∧ PlanAt C (upd H3 N (.lst (ns.map iv))) O Tt S wd pcas cars has rows := fun N hN =>
      have g0 : Frm [] H3 (upd H3 N (.lst (ns.map iv))) := Frm.new hN
      ⟨f13.trans (Frm.new hN), hp3.frm g0 (by simp), g0.at hW3 (by simp), hP3.frm g0 (by simp)⟩
    refine ⟨rfl, _, rfl, ?_⟩
    apply ifl2 (G := fun H4 => ∃ has' ns', ns'.Perm ns ∧ ns'.Pairwise (· ≤ ·) ∧ Frm [p, S] H H4 ∧ PoolAt H4 p ∧ H4 W = some (rowO ns) ∧ PlanAt C H4 O Tt S wd pcas cars has' (rows.set h ns'))
    case h =>
      intro hk
      refine ⟨_, rfl, O, dx, _, rfl, eO3, pf_m (by simp), _, rfl, _, rfl, W, _, rfl, .inl (SqL.of hW3), fun N hN => ?_⟩
      obtain ⟨f4, hp4, hW4, hP4⟩ := lst N hN
      refine ⟨O, Tt, S, wd, pcas, cars, has, rows, h, r0, N, ns, rfl, hP4, by omega, hr0, upd_same, by omega, hM, fun H5 has' ns' hpm ho f5 hP5 => ?_⟩
      exact hk H5 ⟨has', ns', hpm, ho, (f4.mono (by simp)).app f5 (by simp), hp4.frm f5 (not1 nSp.symm), f5.at hW4 (not1 nWS), hP5⟩
    case h' =>
      intro hk
      refine ⟨_, rfl, W, _, rfl, .inl (SqL.of hW3), fun N hN => ?_⟩
      obtain ⟨f4, hp4, hW4, hP4⟩ := lst N hN
      obtain ⟨dx4, eO4⟩ := hP4.ob
      refine ⟨_, rfl, _, rfl, O, dx4, _, rfl, eO4, O, Tt, S, wd, pcas, cars, has, rows, h, r0, N, ns, rfl, hP4, by omega, hr0, upd_same, by omega, hM, fun H5 has' ns' hpm ho f5 hP5 => ?_⟩
      exact hk H5 ⟨has', ns', hpm, ho, (f4.mono (by simp)).app f5 (by simp), hp4.frm f5 (not1 nSp.symm), f5.at hW4 (not1 nWS), hP5⟩
    case hr =>
      rintro H4 ⟨has', ns', hpm, ho, f4, hp4, hW4, hP4⟩
      have nLS : L ∉ [p, S] := by simp; exact ⟨nLp, nSL.symm⟩
      have nRS : R ∉ [p, S] := by simp; exact ⟨nRp, nSR.symm⟩
      have hC4 := hC.frm f4 nLS
      have hR4 := hR.frm f4 nRS (fun a ha => by simp; exact ⟨rasp a ha, rasS a ha⟩)
      have hlt : ∀ k ∈ ns, k < cars.length := fun k hk => by
        obtain ⟨c, hc, _⟩ := hwin k hk
        exact lt_of_ix hc
      have e := sorted_filter hpm ho hnd hlt
      refine ⟨_, rfl, L, _, rfl, .inl (SqL.of hC4.1), cars.length, (by rw [hC4.len]), by omega, by omega, fun D1 hD1 => lc_range (lo := 0) (n := cars.length) (fun i H5 => H5 = upd H4 D1 (.lst (((List.range i).filter fun k => decide (k ∈ ns)).map iv))) rfl ?_ ?_⟩
      · rintro i H5 hi rfl
        rw [z0]
        have eW5 : upd H4 D1 (.lst (((List.range i).filter fun k => decide (k ∈ ns)).map iv)) W = some (rowO ns) := by rw [upd_ne (ne_of_none hW4 hD1)]; exact hW4
        have hlen : (((List.range i).filter fun k => decide (k ∈ ns)).map iv).length ≤ i := by
          rw [List.length_map]
          exact Nat.le_trans (List.length_filter_le _ _) (by rw [List.length_range]; exact Nat.le_refl _)
        refine ⟨rfl, _, rfl, _, rfl, W, _, rfl, .inl (SqL.of eW5), rfl, flat_iv ns, _, rfl, ?_⟩
        show if inV (iv i) (ns.map iv) = true then _ else _
        rw [inV_iv]
        refine ifl (fun hm => ⟨_, rfl, _, upd_same, small1000 (by omega), ?_⟩) (fun hm => ?_)
        · rw [upd_upd, List.range_succ, List.filter_append, List.filter_cons_of_pos (by simpa using hm), List.map_append]
          rfl
        · show upd H4 D1 _ = upd H4 D1 _
          rw [List.range_succ, List.filter_append, List.filter_cons_of_neg (by simpa using hm), List.filter_nil, List.append_nil]
      · rintro H5 rfl
        rw [← e]
        have g5 : Frm [] H4 (upd H4 D1 (.lst (ns'.map iv))) := Frm.new hD1
        have eD5 : upd H4 D1 (.lst (ns'.map iv)) D1 = some (rowO ns') := upd_same
        generalize upd H4 D1 (.lst (ns'.map iv)) = H5 at g5 eD5 ⊢
        have hR5 := hR4.frm g5 (by simp) (by simp)
        have hP5 := hP4.frm g5 (by simp)
        have hC5 := hC4.frm g5 (by simp)
        have nDR : D1 ≠ R := ne_new hR4.1 hD1
        refine ⟨_, rfl, _, rfl, R, _, h, h, rfl, rfl, hR5.1, ?_, ?_⟩
        · have z : h < ras.length := by have := hR.len; rw [List.length_map] at this; omega
          simp [ixN]
          omega
        · rw [show (refs ras).set h (.ref D1) = refs (ras.set h D1) from (List.map_set ..).symm]
          have fR : Frm [R] H5 (upd H5 R (.lst (refs (ras.set h D1)))) := Frm.set (List.mem_singleton.mpr rfl) hR5.1
          have nRL : L ≠ R := fun q => hC5.neRows hR5 hr0 q
          refine k _ has' (ras.set h D1) (rows.set h ns') (B.set hr0 (strict_of ho (hpm.nodup_iff.mpr hnd)) (by rw [hpm.length_eq]; exact hwd) (fun q hq => hwin q (hpm.mem_iff.mp hq))) ?_ ?_ (hC5.frm fR (not1 nRL)) (hP5.frm fR (not1 nSR)) (hR5.upd eD5 nDR) (fun a ha => ?_)
          · exact ((f4.mono (by simp)).trans g5.nil).app fR (by simp)
          · exact (hp4.frm g5 (by simp)).frm fR (not1 nRp.symm)
          · rcases List.mem_or_eq_of_mem_set ha with z | z
            · exact .inl z
            · refine .inr ?_
              rw [z]
              exact f4.free hD1
end
end Oc
-- LB
set_option Elab.async false
set_option linter.all false
set_option maxRecDepth 100000
set_option maxHeartbeats 4000000
/-! _law_plan_is. -/
namespace Oc
open PySem PySem.Spec PyProof.Rows L2
theorem gotN_hours (rows : Rows) (k : Nat) : ∀ i, i ≤ rows.length → gotN (rows.take i) k = ((List.range i).filter fun h => decide (k ∈ rows.getD h [])).length
  | 0, _ => rfl
  | i + 1, h => by
    have hr : rows[i]? = some rows[i] := List.getElem?_eq_getElem (by omega)
    rw [gotN_take hr, hoursIn_take, List.length_append, gotN_hours rows k i (by omega), getD_of hr]
    by_cases hk : k ∈ rows[i]
    · rw [if_pos hk, if_pos hk]; rfl
    · rw [if_neg hk, if_neg hk]; rfl
theorem gotN_hoursIn (rows : Rows) (k : Nat) : gotN rows k = (hoursIn rows k).length := by
  have h := gotN_hours rows k rows.length (Nat.le_refl _)
  rwa [List.take_length] at h
theorem alikeI {n : Nat} {H : Hp} {ns : List Nat} (i : Nat) (u v : V) (h1 : (ns.map iv)[i]? = some u) (h2 : (ns.map iv)[i]? = some v) : AlikeN (n + 1) u v H := by
  rw [h1] at h2
  cases h2
  obtain ⟨m, _, rfl⟩ := ix_map h1
  exact .int _
theorem alikeT {n : Nat} {H : Hp} {a b : Addr} {ns : List Nat} (ha : H a = some (tupO ns)) (hb : H b = some (tupO ns)) (hz : ns.length ≤ 1000) : AlikeN (n + 2) (.ref a) (.ref b) H := .tup ha hb rfl (by rw [List.length_map]; exact hz) fun i u v h1 h2 => alikeI i u v h1 h2
theorem alikeL {n : Nat} {H : Hp} {a b : Addr} {ns : List Nat} (ha : H a = some (rowO ns)) (hb : H b = some (rowO ns)) (hz : ns.length ≤ 1000) : AlikeN (n + 2) (.ref a) (.ref b) H := .lst ha hb rfl (by rw [List.length_map]; exact hz) fun i u v h1 h2 => alikeI i u v h1 h2
section
variable {P : Program} {w : World} {K : PySem.W.Frag} {mg : Str → Option Value} {base : Heap} {C CB : Addr}
abbrev DSame (P : Program) (w : World) (K : PySem.W.Frag) (mg : Str → Option Value) (base : Heap) : Prop := DefAt P w K mg base CX0 3 "_law_same" ["_law_told", "_law_due"] (spSame 3)
def spPlanIs (C : Addr) : Sp := fun vs H Q _ => ∃ (O T S : Addr) (wd : Nat) (L : Addr) (cas : List Addr) (cars : List Car) (R : Addr) (ras : List Addr) (rows : Rows) (pcas has : List Addr), vs = [.ref O, iv wd, .ref L, .ref R] ∧ CarsL H L cas cars ∧ RowsL H R ras rows ∧ PlanAt C H O T S wd pcas cars has rows ∧
  PlanOk wd cars rows ∧ wd ≤ 12 ∧ cars.length ≤ 14 ∧ rows.length ≤ 72 ∧ ∀ H', Frm [] H H' → Q (.bl true) H'
theorem scPlanIs : FnScope ["_law_plan", "_law_width", "_law_cars", "_law_rows", "_law_hour", "_law_number", "_law_hours_here", "_law_row"] ["_law_plan", "_law_width", "_law_cars", "_law_rows"] (defScope sPlanIs) := ⟨rfl, rfl, rfl, by decide +kernel, rfl, by decide +kernel, by decide +kernel⟩
theorem d_planis {f : Addr} {fd : FuncData} (F : Fun K "_law_plan_is" "_law_plan_is" sPlanIs f fd) (g : mg "_law_plan_is" = some (.ref f)) (T : Txt K mg) (PC : PlanC K C) (DS : DSame P w K mg base)
    (ML : MethAt P w K mg base CX0 1 C "__len__" ["self"] (spLen C)) (MIt : MethAt P w K mg base CX0 1 C "__iter__" ["self"] (spIter C)) (MT : MethAt P w K mg base CX0 1 C "total" ["self"] (spTotal C)) (MG : MGet P w K mg base C) (MR : MethAt P w K mg base CX0 2 C "room" ["self", "hour"] (spRoom C))
    (MH : MethAt P w K mg base CX0 4 C "hours_of" ["self", "number"] (spHoursOf C)) (Mg : MGot P w K mg base C CB) (Ml : MethAt P w K mg base (L2.CX P w) 5 C "lack" ["self", "number"] (spLack C CB)) :
    DefAt P w K mg base CX0 6 "_law_plan_is" ["_law_plan", "_law_width", "_law_cars", "_law_rows"] (spPlanIs C) := by
  have nd := scPlanIs.nd
  refine ⟨f, fd, F.ok scPlanIs (fun vs H Q E h => ?_) (fun cdv A outer s H vs Q E hr h => ?_), g, F.kp, F.binds fun _ _ _ _ _ _ us hl => match us, hl with | [_, _, _, _], _ => rfl⟩
  · obtain ⟨_, _, _, _, _, _, _, _, _, _, _, _, rfl, _⟩ := h
    rfl
  · obtain ⟨O, Tt, S, wd, L, cas, cars, R, ras, rows, pcas, has, rfl, hC, hR, hP, B, w2, hl, h72, k⟩ := h
    have hr1 : Room 1 _ := hr.mono (by decide)
    have hr2 : Room 2 _ := hr.mono (by decide)
    have hr3 : Room 3 _ := hr.mono (by decide)
    have hr4 : Room 4 _ := hr.mono (by decide)
    refine ⟨_, (pss_cons (ps_if (PW.pt (pw_or (pt_not (pt_val (pe_def DS hr3 pass0 (pa_cons (pe_fld (pv 0) rfl) (pa_cons (pv 1) pa_nil))))) (pw_or (pt_not (pt_val (pe_def DS hr3 pass0 (pa_cons (pe_fld (pv 0) rfl) (pa_cons (pe_callTy call_tuple_of (by rfl) T.tuple (by decide +kernel) (pa_cons (pv 2) pa_nil)) pa_nil))))) (pw_or1 (pt_not (pt_val (pe_def DS hr3 pass0 (pa_cons (pe_callB (call_lenOwn (E := L2.E0) ML hr2 pass0) (by rfl) T.len PySem.boot_len (pa_cons (pv 0) pa_nil)) (pa_cons (pe_callB call_len_seq (by rfl) T.len PySem.boot_len (pa_cons (pv 3) pa_nil)) pa_nil)))))))))
        (pss_one (ps_ret pe_bl))
        pss_nil)
      (pss_cons (ps_if (pt_not (pt_val (pe_def DS hr3 pass0 (pa_cons (pe_callTy (call_listPlan MIt ML rfl hr3 hr4) (by rfl) T.list (by decide +kernel) (pa_cons (pv 0) pa_nil)) (pa_cons (pe_lc (own := [("_law_row", 7)]) (g := gName 7) rfl nd (pi_list (pv 3)) (blkOk_by (own := [("_law_row", 7)]) (N := ["_law_plan", "_law_width", "_law_cars", "_law_rows", "_law_hour", "_law_number", "_law_hours_here", "_law_row"]) (sc := defScope sPlanIs) (by decide +kernel)) (fun _ _ _ _ _ => pg_name (i := 7) nd rfl (Or.inl rfl)) (fun _ _ _ _ _ => pts_nil) (fun _ _ _ _ _ => (pe_callTy (call_tuple_ofK K) (by rfl) T.tuple (by decide +kernel) (pa_cons (pv 7) pa_nil)))) pa_nil)))))
        (pss_one (ps_ret pe_bl))
        pss_nil)
      (pss_cons (ps_if (pt_not (pt_val (pe_def DS hr3 pass0 (pa_cons (pe_mth0 MT PC.cl hr1 pass0 (pv 0)) (pa_cons (pe_callB (cr_sum rfl) (by rfl) T.sum (by decide +kernel) (pa_cons (pe_lc (own := [("_law_row", 7)]) (g := gName 7) rfl nd (pi_list (pv 3)) (blkOk_by (own := [("_law_row", 7)]) (N := ["_law_plan", "_law_width", "_law_cars", "_law_rows", "_law_hour", "_law_number", "_law_hours_here", "_law_row"]) (sc := defScope sPlanIs) (by decide +kernel)) (fun _ _ _ _ _ => pg_name (i := 7) nd rfl (Or.inl rfl)) (fun _ _ _ _ _ => pts_nil) (fun _ _ _ _ _ => (pe_callB (call_len_seqK K) (by rfl) T.len PySem.boot_len (pa_cons (pv 7) pa_nil)))) pa_nil)) pa_nil)))))
        (pss_one (ps_ret pe_bl))
        pss_nil)
      (pss_cons (ps_for PassesOwn.never rfl (pi_range1 rfl T.range (pa_cons (pe_callB call_len_seq (by rfl) T.len PySem.boot_len (pa_cons (pv 3) pa_nil)) pa_nil)) (pg_name (i := 4) nd rfl (.inl rfl))
        (pss_one (ps_if (PW.pt (pw_or (pt_not (pt_val (pe_def DS hr3 pass0 (pa_cons (pe_getOwn MG PC.fnGet hr3 pass0 (pv 0) (pv 4)) (pa_cons (pe_callTy call_tuple_of (by rfl) T.tuple (by decide +kernel) (pa_cons (pe_ix ix_list (pv 3) (pv 4) (fun _ _ => rfl)) pa_nil)) pa_nil))))) (pw_or1 (pt_not (pt_val (pe_def DS hr3 pass0 (pa_cons (pe_mth MR PC.cl hr2 pass0 (pv 0) (pa_cons (pv 4) pa_nil)) (pa_cons (pe_op op_sub (pv 1) (pe_callB call_len_seq (by rfl) T.len PySem.boot_len (pa_cons (pe_ix ix_list (pv 3) (pv 4) (fun _ _ => rfl)) pa_nil))) pa_nil))))))))
          (pss_one (ps_ret pe_bl))
          pss_nil)))
      (pss_cons (ps_for PassesOwn.never rfl (pi_range1 rfl T.range (pa_cons (pe_callB call_len_seq (by rfl) T.len PySem.boot_len (pa_cons (pv 2) pa_nil)) pa_nil)) (pg_name (i := 5) nd rfl (.inr rfl))
        (pss_cons (ps_setLc (i := 6) (own := [("_law_hour", 4)]) (g := gName 4) rfl nd rfl rfl (sw_true rfl rfl rfl (by decide +kernel)) (pi_range1 rfl T.range (pa_cons (pe_callB call_len_seq (by rfl) T.len PySem.boot_len (pa_cons (pv 3) pa_nil)) pa_nil)) (blkOk_by (own := [("_law_hour", 4)]) (N := ["_law_plan", "_law_width", "_law_cars", "_law_rows", "_law_hour", "_law_number", "_law_hours_here", "_law_row"]) (sc := defScope sPlanIs) (by decide +kernel)) (fun _ _ _ _ _ => pg_name (i := 4) nd rfl (Or.inl rfl)) (fun _ _ _ _ _ => pts_one (pt_cmpR (op_in_seqK K) (pv 5) (pe_ix (ix_listK K) (pv 3) (pv 4) (fun _ _ => rfl)) (by rfl))) (fun _ _ _ _ _ => (pv 4)))
        (pss_cons (ps_if (PW.pt (pw_or (pt_not (pt_val (pe_def DS hr3 pass0 (pa_cons (pe_mth MH PC.cl hr4 pass0 (pv 0) (pa_cons (pv 5) pa_nil)) (pa_cons (pv 6) pa_nil))))) (pw_or1 (pt_not (pt_val (pe_def DS hr3 pass0 (pa_cons (pe_mth Mg PC.cl hr4 passL (pv 0) (pa_cons (pv 5) pa_nil)) (pa_cons (pe_callB call_len_seq (by rfl) T.len PySem.boot_len (pa_cons (pv 6) pa_nil)) pa_nil))))))))
          (pss_one (ps_ret pe_bl))
          pss_nil)
        (pss_one (ps_if (pt_not (pt_val (pe_def DS hr3 pass0 (pa_cons (pe_mth Ml PC.cl hr passL (pv 0) (pa_cons (pv 5) pa_nil)) (pa_cons (pe_op op_sub (pe_ix ix_tup (pe_ix ix_list (pv 2) (pv 5) (fun _ _ => rfl)) pe_int (fun _ _ => rfl)) (pe_callB call_len_seq (by rfl) T.len PySem.boot_len (pa_cons (pv 6) pa_nil))) pa_nil)))))
          (pss_one (ps_ret pe_bl))
          pss_nil)))))
      (pss_one (ps_ret pe_bl))))))), ?_⟩
    obtain ⟨dx, eO⟩ := hP.ob
    refine ⟨_, rfl, O, C, dx, _, _, rfl, eO, PC.cl, PC.nW, pf_w _ _ _, _, rfl, _, _, rfl, .int _, _, rfl, iteF ?_⟩
    refine ⟨_, rfl, O, C, dx, _, _, rfl, eO, PC.cl, PC.nC, pf_c _ _ _, _, rfl, L, _, rfl, .inl ⟨SqL.of hC.1, fun tA htA => ?_⟩⟩
    have f1 : Frm [] H (upd H tA (.tup (refs cas))) := Frm.new htA
    have eA : upd H tA (.tup (refs cas)) tA = some (.tup (refs cas)) := upd_same
    generalize upd H tA (.tup (refs cas)) = H1 at f1 eA ⊢
    have hP1 := hP.frm f1 (by simp)
    have hR1 := hR.frm f1 (by simp) (by simp)
    have hC1 := hC.frm f1 (by simp)
    have eO1 := f1.ins eO
    refine ⟨_, _, rfl, .tup hP1.ct.1 eA (by rw [hP1.cl, hC.len]) (by rw [hP1.cl]; omega) (fun i u v h1 h2 => ?_), _, rfl, iteF ?_⟩
    · obtain ⟨a, ha, rfl⟩ := ix_map h1
      obtain ⟨b, hb, rfl⟩ := ix_map h2
      obtain ⟨o, ho, ea⟩ := hP1.ct.2.of ha
      obtain ⟨c, hc, rfl⟩ := ix_map ho
      obtain ⟨b', hb', eb⟩ := hC1.car hc
      rw [hb] at hb'
      cases hb'
      refine .tup ea eb rfl (by show 3 ≤ 1000; decide) fun j u v h1 h2 => ?_
      rw [h1] at h2
      cases h2
      have hm := List.mem_of_getElem? h1
      rcases List.mem_cons.mp hm with e | hm
      · rw [e]; exact .int _
      · rcases List.mem_cons.mp hm with e | hm
        · rw [e]; exact .int _
        · rw [List.mem_singleton.mp hm]; exact .int _
    refine ⟨_, rfl, O, dx, _, rfl, eO1, O, Tt, S, wd, pcas, cars, has, rows, rfl, hP1, rows.length, rfl, by omega, ?_⟩
    refine ⟨_, rfl, R, _, rfl, .inl (SqL.of hR1.1), ?_⟩
    rw [hR1.len]
    refine ⟨_, _, rfl, .int _, _, rfl, iteF ?_⟩
    -- list(plan)
    have hrl := hP1.hl
    refine ⟨_, rfl, O, Tt, S, wd, pcas, cars, has, rows, rfl, hP1, by omega, fun q H2 f2 hq0 eq2 => ?_⟩
    have hR2 := hR1.frm f2 (by simp) (by simp)
    refine ⟨_, rfl, R, rfl, ⟨_, SqL.of hR2.1⟩, fun D1 hD1 => lc_list (K := K) (a := R) (xs := refs ras) (fun i H' => ∃ ts : List Addr, Frm [] H2 H' ∧ H' D1 = some (.lst (refs ts)) ∧ ts.length = i ∧ Objs H' ts ((rows.take i).map tupO)) ⟨[], Frm.new hD1, upd_same, rfl, Objs.nil⟩ (fun i H' _ ⟨_, f, _⟩ => SqL.of (f.at hR2.1 (by simp))) ?_ ?_⟩
    · rintro i y H' hi ⟨ts, f3, eD, htl, ob⟩
      obtain ⟨a, ha, rfl⟩ := ix_map hi
      obtain ⟨o, ho, ea⟩ := hR2.2.of ha
      obtain ⟨r, hr', rfl⟩ := ix_map ho
      have ea3 := f3.at ea (by simp)
      have hil := lt_of_ix hr'
      refine ⟨rfl, yes_ ?_⟩
      refine ⟨_, rfl, a, _, rfl, .inl ⟨SqL.of ea3, fun t ht => ?_⟩⟩
      have ntD : D1 ≠ t := ne_of_none eD ht
      refine ⟨_, (by rw [upd_ne ntD]; exact eD), small1000 (by rw [List.length_map]; omega), ts ++ [t], ?_, ?_, by rw [List.length_append]; simp; exact htl, ?_⟩
      · exact (f3.put (f3.free ht)).put hD1
      · rw [upd_same]
        show some (HO.lst (ts.map V.ref ++ [.ref t])) = some (.lst ((ts ++ [t]).map V.ref))
        rw [List.map_append]
        rfl
      · rw [take_ix hr', List.map_append]
        refine Objs.snoc (ob.imp fun b _ o ho e => ?_) (by rw [upd_ne ntD.symm, upd_same])
        obtain ⟨r2, _, rfl⟩ := List.mem_map.mp ho
        rw [upd_ne (ne_of e eD (by intro q; cases q)), upd_ne (ne_of_none e ht)]
        exact e
    rintro H3 ⟨ts, f3, eD, htl, ob⟩
    rw [hR2.len, List.take_length] at ob
    rw [hR2.len] at htl
    have f23 : Frm [] H H3 := (f1.trans f2).trans f3
    have hP3 := hP.frm f23 (by simp)
    have hR3 := hR.frm f23 (by simp) (by simp)
    have eO3 := f23.ins eO
    have eq3 := f3.at eq2 (by simp)
    refine ⟨_, _, rfl, .lst eq3 eD (by rw [hrl, List.length_map, htl]) (by rw [hrl]; omega) (fun i u v h1 h2 => ?_), _, rfl, iteF ?_⟩
    · obtain ⟨a, ha, rfl⟩ := ix_map h1
      obtain ⟨b, hb, rfl⟩ := ix_map h2
      obtain ⟨o, ho, ea⟩ := hP3.ho.of ha
      obtain ⟨r, hr', rfl⟩ := ix_map ho
      obtain ⟨o', ho', eb⟩ := ob.of hb
      obtain ⟨r2, hr2, rfl⟩ := ix_map ho'
      rw [hr'] at hr2
      cases hr2
      exact alikeT ea eb (by have := B.ok.wid r (List.mem_of_getElem? hr'); omega)
    -- total
    refine ⟨_, rfl, O, dx, _, rfl, eO3, pf_m (by simp), O, Tt, S, wd, pcas, cars, has, rows, rfl, hP3, by omega, fun H4 f4 => ?_⟩
    have hR4 := hR3.frm f4 (by simp) (by simp)
    refine ⟨_, rfl, R, rfl, ⟨_, SqL.of hR4.1⟩, fun D2 hD2 => lc_list (K := K) (a := R) (xs := refs ras) (fun i H' => H' = upd H4 D2 (.lst ((rows.take i).map fun r => V.int (r.length : Int)))) rfl (fun i H' _ e => by rw [e]; exact SqL.of (by rw [upd_ne (ne_of_none hR4.1 hD2)]; exact hR4.1)) ?_ ?_⟩
    · rintro i y H' hi rfl
      obtain ⟨a, ha, rfl⟩ := ix_map hi
      obtain ⟨o, ho, ea⟩ := hR4.2.of ha
      obtain ⟨r, hr', rfl⟩ := ix_map ho
      have eaD : upd H4 D2 (.lst ((rows.take i).map fun r => V.int (r.length : Int))) a = some (rowO r) := by rw [upd_ne (ne_of_none ea hD2)]; exact ea
      refine ⟨rfl, yes_ ?_⟩
      refine ⟨_, rfl, a, _, rfl, .inl (SqL.of eaD), _, upd_same, small1000 (by rw [List.length_map, List.length_take]; omega), ?_⟩
      rw [upd_upd, take_ix hr', List.map_append, List.length_map]
      rfl
    rintro H5 rfl
    rw [hR4.len, List.take_length]
    refine ⟨D2, rows.map fun r => (r.length : Int), rfl, SqL.of (by rw [upd_same, List.map_map]; rfl), ?_⟩
    have f45 : Frm [] H (upd H4 D2 (.lst (rows.map fun r => V.int (r.length : Int)))) := (f23.trans f4).trans (Frm.new hD2)
    generalize upd H4 D2 (.lst (rows.map fun r => V.int (r.length : Int))) = H5 at f45 ⊢
    refine ⟨_, _, rfl, .int _, _, rfl, iteF ?_⟩
    have hR5 := hR.frm f45 (by simp) (by simp)
    -- the hours
    refine ⟨_, rfl, R, _, rfl, .inl (SqL.of hR5.1), rows.length, (by rw [hR5.len]), by omega, by omega, for_range (lo := 0) (n := rows.length) (fun i σ H' => ∃ v4, σ = [some (.ref O), some (iv wd), some (.ref L), some (.ref R), v4, none, none, none] ∧ Frm [] H H') ⟨none, rfl, f45⟩ ?_ ?_⟩
    · rintro i σ H6 hi ⟨v4, rfl, f6⟩
      rw [z0]
      have hr' : rows[i]? = some rows[i] := List.getElem?_eq_getElem hi
      generalize rows[i] = r at hr'
      have hrw := B.ok.wid r (List.mem_of_getElem? hr')
      have hP6 := hP.frm f6 (by simp)
      have hR6 := hR.frm f6 (by simp) (by simp)
      obtain ⟨ra, hra, era⟩ := hR6.row hr'
      refine ⟨_, rfl, _, rfl, O, dx, _, rfl, f6.ins eO, O, Tt, S, wd, pcas, cars, has, rows, i, r, rfl, hP6, hr', fun a ea => ?_⟩
      refine ⟨_, rfl, _, rfl, R, _, _, _, rfl, rfl, SqL.of hR6.1, atI_nat (map_ix hra), ra, _, rfl, .inl ⟨SqL.of era, fun tB htB => ?_⟩⟩
      have f7 : Frm [] H (upd H6 tB (.tup (r.map iv))) := f6.trans (Frm.new htB)
      have eB : upd H6 tB (.tup (r.map iv)) tB = some (tupO r) := upd_same
      have ea7 : upd H6 tB (.tup (r.map iv)) a = some (tupO r) := by rw [upd_ne (ne_of_none ea htB)]; exact ea
      generalize upd H6 tB (.tup (r.map iv)) = H7 at f7 eB ea7 ⊢
      refine ⟨_, _, rfl, alikeT ea7 eB (by omega), _, rfl, iteF ?_⟩
      have hP7 := hP.frm f7 (by simp)
      have hR7 := hR.frm f7 (by simp) (by simp)
      obtain ⟨rb, hrb, erb⟩ := hR7.row hr'
      refine ⟨_, rfl, O, dx, _, rfl, f7.ins eO, pf_m (by simp), _, rfl, O, Tt, S, wd, pcas, cars, has, rows, i, r, rfl, hP7, hr', ?_⟩
      refine ⟨_, rfl, _, rfl, _, rfl, R, _, _, _, rfl, rfl, SqL.of hR7.1, atI_nat (map_ix hrb), rb, _, rfl, .inl (SqL.of erb), _, _, rfl, rfl, ?_⟩
      rw [List.length_map]
      exact ⟨_, _, rfl, .int _, _, rfl, iteF ⟨_, rfl, f7⟩⟩
    rintro σ H6 ⟨v4, rfl, f6⟩
    -- the cars
    have hC6 := hC.frm f6 (by simp)
    refine ⟨_, rfl, L, _, rfl, .inl (SqL.of hC6.1), cars.length, (by rw [hC6.len]), by omega, by omega, for_range (lo := 0) (n := cars.length) (fun j σ H' => ∃ v5 v6, σ = [some (.ref O), some (iv wd), some (.ref L), some (.ref R), v4, v5, v6, none] ∧ Frm [] H H') ⟨none, none, rfl, f6⟩ ?_ ?_⟩
    · rintro j σ H7 hj ⟨v5, v6, rfl, f7⟩
      rw [z0]
      have hc : cars[j]? = some cars[j] := List.getElem?_eq_getElem hj
      generalize cars[j] = c at hc
      have hR7 := hR.frm f7 (by simp) (by simp)
      refine ⟨_, rfl, R, _, rfl, .inl (SqL.of hR7.1), rows.length, (by rw [hR7.len]), by omega, by omega, fun D3 hD3 => lc_range (lo := 0) (n := rows.length) (fun i H' => H' = upd H7 D3 (.lst (((List.range i).filter fun h => decide (j ∈ rows.getD h [])).map iv))) rfl ?_ ?_⟩
      · rintro i H8 hi rfl
        rw [z0]
        have hr' : rows[i]? = some rows[i] := List.getElem?_eq_getElem hi
        generalize rows[i] = r at hr'
        have hR8 := hR7.frm (Frm.new hD3 : Frm [] H7 (upd H7 D3 (.lst (((List.range i).filter fun h => decide (j ∈ rows.getD h [])).map iv)))) (by simp) (by simp)
        obtain ⟨ra, hra, era⟩ := hR8.row hr'
        have hlen : (((List.range i).filter fun h => decide (j ∈ rows.getD h [])).map iv).length ≤ i := by
          rw [List.length_map]
          exact Nat.le_trans (List.length_filter_le _ _) (by rw [List.length_range]; exact Nat.le_refl _)
        refine ⟨rfl, _, rfl, _, rfl, _, rfl, R, _, _, _, rfl, rfl, SqL.of hR8.1, atI_nat (map_ix hra), ra, _, rfl, .inl (SqL.of era), rfl, flat_iv r, _, rfl, ?_⟩
        show if inV (iv j) (r.map iv) = true then _ else _
        rw [inV_iv]
        refine ifl (fun hm => ⟨_, rfl, _, upd_same, small1000 (by omega), ?_⟩) (fun hm => ?_)
        · rw [upd_upd, hoursIn_take, getD_of hr', if_pos hm, List.map_append]
          rfl
        · show upd H7 D3 _ = upd H7 D3 _
          rw [hoursIn_take, getD_of hr', if_neg hm, List.append_nil]
      rintro H8 rfl
      have eD : upd H7 D3 (.lst ((hoursIn rows j).map iv)) D3 = some (rowO (hoursIn rows j)) := upd_same
      have f8 : Frm [] H (upd H7 D3 (.lst ((hoursIn rows j).map iv))) := f7.trans (Frm.new hD3)
      show tSeq _ _ _ _ (upd H7 D3 (.lst ((hoursIn rows j).map iv)))
      generalize upd H7 D3 (.lst ((hoursIn rows j).map iv)) = H8 at eD f8 ⊢
      have hP8 := hP.frm f8 (by simp)
      have hhl : (hoursIn rows j).length ≤ 72 := by rw [← gotN_hoursIn]; exact Nat.le_trans (gotN_le _ _) h72
      refine ⟨_, rfl, O, dx, _, rfl, f8.ins eO, pf_m (by simp), _, rfl, O, Tt, S, wd, pcas, cars, has, rows, j, rfl, hP8, by omega, hj, fun H9 G9 f9 hG9 eG9 => ?_⟩
      have f89 := f8.trans f9
      have eD9 := f9.at eD (by simp)
      refine ⟨_, rfl, _, _, rfl, alikeL eG9 eD9 (by omega), _, rfl, iteF ?_⟩
      have hP9 := hP.frm f89 (by simp)
      refine ⟨_, rfl, O, dx, _, rfl, f89.ins eO, pf_m (by simp), _, rfl, O, Tt, S, wd, pcas, cars, has, rows, j, rfl, hP9, by omega, fun k' ek hk' HA fA => ?_, fun q => absurd ⟨by omega, by omega⟩ q⟩
      obtain rfl : j = k' := by omega
      have f9A := f89.trans fA
      have eDA := fA.at eD9 (by simp)
      refine ⟨_, rfl, D3, _, rfl, .inl (SqL.of eDA), ?_⟩
      rw [List.length_map, gotN_hoursIn]
      refine ⟨_, _, rfl, .int _, _, rfl, iteF ?_⟩
      have hPA := hP.frm f9A (by simp)
      refine ⟨_, rfl, O, dx, _, rfl, f9A.ins eO, pf_m (by simp), _, rfl, O, Tt, S, wd, pcas, cars, has, rows, j, rfl, hPA, by omega, fun k' c' ek hk' HB fB => ?_, fun q => absurd ⟨by omega, by omega⟩ q⟩
      obtain rfl : j = k' := by omega
      rw [hc] at hk'
      cases hk'
      have f9B := f9A.trans fB
      have eDB := fB.at eDA (by simp)
      have hCB := hC.frm f9B (by simp)
      obtain ⟨ca, hca, eca⟩ := hCB.car hc
      refine ⟨_, rfl, _, rfl, L, _, _, _, rfl, rfl, SqL.of hCB.1, atI_nat (map_ix hca), ca, _, 2, _, rfl, rfl, SqT.of eca, atI_nat (j := 2) rfl, _, rfl, D3, _, rfl, .inl (SqL.of eDB), _, _, rfl, rfl, ?_⟩
      rw [List.length_map, gotN_hoursIn]
      exact ⟨_, _, rfl, .int _, _, rfl, iteF ⟨_, _, rfl, f9B⟩⟩
    rintro σ H7 ⟨v5, v6, rfl, f7⟩
    exact k H7 f7
end
end Oc
-- LC
set_option Elab.async false
set_option linter.all false
set_option maxRecDepth 100000
set_option maxHeartbeats 4000000
/-! _law_find_told. -/
namespace Oc
open PySem PySem.Spec PyProof.Rows L2
theorem takesNo {X : Cx} : Takes X (fun _ _ _ _ => False) := fun _ _ x => by
  obtain ⟨_, _, _, _, _, _, _, _, _, _, _, _, _, _, _, _, z⟩ := x
  cases z
section
variable {P : Program} {w : World} {K : PySem.W.Frag} {mg : Str → Option Value} {base : Heap} {C CB fI cc cda : Addr}
abbrev DFind (P : Program) (w : World) (K : PySem.W.Frag) (mg : Str → Option Value) (base : Heap) (C CB : Addr) : Prop := DefAt P w K mg base (L2.CX P w) 6 "find_chain" ["plan", "number"] (spFind C CB)
def spFindTold (C : Addr) : Sp := fun vs H Q _ => ∃ (O T S : Addr) (wd : Nat) (cas : List Addr) (cars : List Car) (has : List Addr) (rows : Rows) (z : Int), vs = [.ref O, .int z] ∧ PlanAt C H O T S wd cas cars has rows ∧ Sized cars rows ∧ ¬ (0 ≤ z ∧ z < cars.length) ∧ ∀ H', Frm [] H H' → Q (.str "car") H'
theorem scFindTold : FnScope ["_law_plan", "_law_number", "_law_told", "e"] ["_law_plan", "_law_number"] (defScope sFindTold) := ⟨rfl, rfl, rfl, by decide +kernel, rfl, by decide +kernel, by decide +kernel⟩
theorem d_findtold {f : Addr} {fd : FuncData} (F : Fun K "_law_find_told" "_law_find_told" sFindTold f fd) (g : mg "_law_find_told" = some (.ref f)) (T : Txt K mg) (BT : BpTxt P K mg CB fI cc cda) (D : DFind P w K mg base C CB) : DefAt P w K mg base CX0 7 "_law_find_told" ["_law_plan", "_law_number"] (spFindTold C) := by
  have nd := scFindTold.nd
  obtain ⟨ff, fdf, FF, hm, hk, hb⟩ := D
  refine ⟨f, fd, F.ok scFindTold (fun vs H Q E h => ?_) (fun cdv A outer s H vs Q E hr h => ?_), g, F.kp, F.binds fun _ _ _ _ _ _ us hl => match us, hl with | [_, _], _ => rfl⟩
  · obtain ⟨_, _, _, _, _, _, _, _, _, rfl, _⟩ := h
    rfl
  · obtain ⟨O, Tt, S, wd, cas, cars, has, rows, z, rfl, hP, hZ, hz, k⟩ := h
    refine ⟨_, (pss_cons (ps_set (i := 2) nd rfl (.inl rfl) pe_non)
      (pss_cons (ps_try_as (i := 3) (tb := fun W => tAsg (tLst (tCons (tCallS (spFind C CB) (WE W) (tCons (tVar 0) (tCons (tVar 1) tNil))) tNil)) (gName 2)) (ts := fun a cls d => tAsg (tPart CB a cls d (tVar 3)) (gName 2)) (Wout := fun _ _ _ _ => False) rfl rfl nd rfl rfl ⟨rfl, by decide, Or.inl BT.gC⟩ takesNo
          (fun W pn xe tk _ => pss_one (ps_set (i := 2) nd rfl (Or.inl rfl) (by exact (pe_lst (pa_cons (pe_callS FF hr rfl hm hk hb (fun σ => passAt tk σ) (by exact (pa_cons (pv 0) (pa_cons (pv 1) pa_nil)))) pa_nil)))))
          (fun a oe cls d pn hz hf => pss_one (ps_set (i := 2) nd rfl (Or.inl rfl) (by exact (pe_part BT hz hf (pv 3))))))
      (pss_one (ps_ret (pv 2))))), ?_⟩
    refine ⟨_, rfl, _, rfl, O, Tt, S, wd, cas, cars, has, rows, z, rfl, hP, hZ, fun n c e hc => absurd ⟨by omega, by have := lt_of_ix hc; omega⟩ hz, fun _ H' d f hd => ?_⟩
    refine ⟨true, BT.te, fun _ a ha => ?_, fun q => by cases q⟩
    refine ⟨_, rfl, rfl, rfl, d, _, rfl, upd_same, ?_⟩
    exact ⟨_, rfl, k _ (f.put hd)⟩
end
end Oc
-- LD
set_option Elab.async false
set_option linter.all false
set_option maxRecDepth 100000
set_option maxHeartbeats 4000000
/-! law. -/
namespace Oc
open PySem PySem.Spec PyProof.Rows L2
theorem ifl3 {c A B : Prop} [Decidable c] {G Rest : Hp → Addr → Prop} (hr : ∀ H L, G H L → Rest H L) (h : (∀ H L, G H L → Rest H L) → A) (h' : (∀ H L, G H L → Rest H L) → B) : if decide c = true then A else B := ifl (fun _ => h hr) (fun _ => h' hr)
theorem PlanOk.sized {wd : Nat} {cars : List Car} {rows : Rows} (B : PlanOk wd cars rows) (hl : cars.length ≤ 14) (hok : ∀ c ∈ cars, CarOk c) : Sized cars rows :=
  ⟨by have := hoursOf_72 hok; have := B.n; omega, by omega, fun c hc => by rw [B.n]; exact hoursOf_ge hc, B.mem⟩
theorem PlanOk.lists {H : Hp} {L R : Addr} {cas ras : List Addr} {wd : Nat} {cars : List Car} {rows : Rows} (B : PlanOk wd cars rows) (hl : cars.length ≤ 14) (hok : ∀ c ∈ cars, CarOk c) (hC : CarsL H L cas cars) (hR : RowsL H R ras rows) : Lists H L cas cars R ras rows :=
  ⟨hC, hR, hl, by have := hoursOf_72 hok; have := B.n; omega, fun c hc => by rw [B.n]; exact hoursOf_ge hc, B.mem⟩
section
variable {P : Program} {w : World} {K : PySem.W.Frag} {mg : Str → Option Value} {base : Heap} {C CB fI cc cda : Addr}
def spLaw (K : PySem.W.Frag) : Sp := fun vs H Q _ => ∃ (a : Addr) (ns : List Int), vs = [.ref a] ∧ SqL K H a (ns.map V.int) ∧ ∀ H', Q (.bl true) H'
theorem scLaw : FnScope ["_law_script", "_law_pool_here", "_law_chance", "_law_width", "_law_cars", "_law_rows", "_law_plan", "_law_turn", "_law_number", "_law_told", "_law_strange"] ["_law_script"] (defScope sLaw) := ⟨rfl, rfl, rfl, by decide +kernel, rfl, by decide +kernel, by decide +kernel⟩
/-- all that the law calls -/
structure Defs (P : Program) (w : World) (K : PySem.W.Frag) (mg : Str → Option Value) (base : Heap) (C CB : Addr) : Prop where
  cell : DefAt P w K mg base CX0 1 "_law_cell" ["_law_script", "_law_at"] (spCell K)
  pool : DefAt P w K mg base CX0 1 "_law_pool" ["_law_cell_here"] spPool
  take : DTake P w K mg base
  room : DefAt P w K mg base CX0 2 "_law_room" ["_law_pool_here"] spRoomL
  lot : DefAt P w K mg base CX0 3 "_law_lot" ["_law_pool_here", "_law_most"] spLot
  day : DDay P w K mg base
  some : DefAt P w K mg base CX0 2 "_law_some_plan" ["_law_pool_here", "_law_width", "_law_cars"] spSomePlan
  planned : DefAt P w K mg base CX0 6 "_law_planned" ["_law_width", "_law_cars", "_law_rows"] (spPlanned C)
  reset : DefAt P w K mg base CX0 7 "_law_reset" ["_law_pool_here", "_law_plan", "_law_width", "_law_cars", "_law_rows"] (spReset C)
  find : DFind P w K mg base C CB
  nochain : DefAt P w K mg base CX0 2 "_law_no_chain" ["_law_width", "_law_cars", "_law_rows", "_law_number"] spNoChain
  told : DefAt P w K mg base CX0 3 "_law_chain_told" ["_law_width", "_law_cars", "_law_rows", "_law_number", "_law_told"] spChainTold
  ftold : DefAt P w K mg base CX0 7 "_law_find_told" ["_law_plan", "_law_number"] (spFindTold C)
  same : DSame P w K mg base
  planis : DefAt P w K mg base CX0 6 "_law_plan_is" ["_law_plan", "_law_width", "_law_cars", "_law_rows"] (spPlanIs C)
/-- the law's own things between two turns -/
structure Now (C : Addr) (H : Hp) (c O T S L R : Addr) (wd : Nat) (cas : List Addr) (cars : List Car) (has ras : List Addr) (rows : Rows) : Prop where
  pl : PlanAt C H O T S wd cas cars has rows
  cl : CarsL H L cas cars
  rl : RowsL H R ras rows
  ok : PlanOk wd cars rows
  po : PoolAt H c
  rc : ∀ a ∈ ras, a ≠ c
  rs : ∀ a ∈ ras, a ≠ S
theorem Now.frm {C : Addr} {H H' : Hp} {c O T S L R : Addr} {wd : Nat} {cas : List Addr} {cars : List Car} {has ras : List Addr} {rows : Rows} (h : Now C H c O T S L R wd cas cars has ras rows) (f : Frm [] H H') : Now C H' c O T S L R wd cas cars has ras rows :=
  ⟨h.pl.frm f (by simp), h.cl.frm f (by simp), h.rl.frm f (by simp) (by simp), h.ok, h.po.frm f (by simp), h.rc, h.rs⟩
theorem ok_law {f : Addr} {fd : FuncData} (F : Fun K "law" "law" sLaw f fd) (T : Txt K mg) (D : Defs P w K mg base C CB) : FnOk P w K mg base CX0 8 f fd ["_law_script"] (spLaw K) := by
  have nd := scLaw.nd
  refine F.ok scLaw (fun vs H Q E h => ?_) (fun cdv A outer s H vs Q E hr h => ?_)
  · obtain ⟨_, _, rfl, _⟩ := h
    rfl
  · obtain ⟨a, ns, rfl, hS, k⟩ := h
    have r1 : Room 1 _ := hr.mono (by decide)
    have r2 : Room 2 _ := hr.mono (by decide)
    have r3 : Room 3 _ := hr.mono (by decide)
    have r6 : Room 6 _ := hr.mono (by decide)
    refine ⟨_, (pss_cons (ps_set (i := 1) nd rfl (.inl rfl) (pe_def D.pool r1 pass0 (pa_cons (pe_def D.cell r1 pass0 (pa_cons (pv 0) (pa_cons pe_int pa_nil))) pa_nil)))
      (pss_cons (ps_set (i := 2) nd rfl (.inl rfl) (pe_def D.pool r1 pass0 (pa_cons (pe_def D.cell r1 pass0 (pa_cons (pv 0) (pa_cons pe_int pa_nil))) pa_nil)))
      (pss_cons (ps_set (i := 3) nd rfl (.inl rfl) (pe_def D.room r2 pass0 (pa_cons (pv 1) pa_nil)))
      (pss_cons (ps_set (i := 4) nd rfl (.inl rfl) (pe_def D.lot r3 pass0 (pa_cons (pv 1) (pa_cons pe_int pa_nil))))
      (pss_cons (ps_if (pt_cmpR op_eq (pe_def D.take r1 pass0 (pa_cons (pv 2) (pa_cons pe_int pa_nil))) pe_int (nomark _))
        (pss_one (ps_set (i := 4) nd rfl (.inl rfl) (pe_def D.day r2 pass0 (pa_cons (pv 1) (pa_cons pe_int (pa_cons pe_int (pa_cons pe_int pa_nil)))))))
        pss_nil)
      (pss_cons (ps_set (i := 5) nd rfl (.inl rfl) (pe_def D.some r2 pass0 (pa_cons (pe_def D.pool r1 pass0 (pa_cons (pe_def D.cell r1 pass0 (pa_cons (pv 0) (pa_cons pe_int pa_nil))) pa_nil)) (pa_cons (pv 3) (pa_cons (pv 4) pa_nil)))))
      (pss_cons (ps_set (i := 6) nd rfl (.inl rfl) (pe_def D.planned r6 pass0 (pa_cons (pv 3) (pa_cons (pv 4) (pa_cons (pv 5) pa_nil)))))
      (pss_cons (ps_for PassesOwn.never rfl (pi_range1 rfl T.range (pa_cons pe_int pa_nil)) (pg_name (i := 7) nd rfl (.inl rfl))
        (pss_cons (ps_if (pt_cmpR op_eq (pv 7) pe_int (nomark _))
          (pss_one (ps_expr (pe_def D.reset hr pass0 (pa_cons (pv 2) (pa_cons (pv 6) (pa_cons (pv 3) (pa_cons (pv 4) (pa_cons (pv 5) pa_nil))))))))
          pss_nil)
        (pss_one (ps_for PassesOwn.never rfl (pi_range1 rfl T.range (pa_cons (pe_callB call_len_seq (by rfl) T.len PySem.boot_len (pa_cons (pv 4) pa_nil)) pa_nil)) (pg_name (i := 8) nd rfl (.inl rfl))
          (pss_cons (ps_set (i := 9) nd rfl (.inl rfl) (pe_def D.find r6 passL (pa_cons (pv 6) (pa_cons (pv 8) pa_nil))))
          (pss_one (ps_if (pt_cmpR op_isN (pv 9) pe_non (nomark _))
            (pss_one (ps_if (pt_not (pt_val (pe_def D.nochain r2 pass0 (pa_cons (pv 3) (pa_cons (pv 4) (pa_cons (pv 5) (pa_cons (pv 8) pa_nil)))))))
              (pss_one (ps_ret pe_bl))
              pss_nil))
            (pss_one (ps_if (pt_not (pt_val (pe_def D.told r3 pass0 (pa_cons (pv 3) (pa_cons (pv 4) (pa_cons (pv 5) (pa_cons (pv 8) (pa_cons (pv 9) pa_nil))))))))
              (pss_one (ps_ret pe_bl))
              (pss_one (ps_expr (pe_bm PySem.F.plainAttrs_list PySem.F.slot_list_append PySem.F.type_list_append mt_append (pv 9) (pa_cons (pe_tup (pa_cons pe_int (pa_cons pe_int pa_nil))) pa_nil)))))))))))))
      (pss_cons (ps_for PassesOwn.never rfl (pi_list (pe_lst (pa_cons (pe_op op_sub pe_int pe_int) (pa_cons (pe_op op_sub pe_int (pe_callB call_len_seq (by rfl) T.len PySem.boot_len (pa_cons (pv 4) pa_nil))) (pa_cons (pe_callB call_len_seq (by rfl) T.len PySem.boot_len (pa_cons (pv 4) pa_nil)) (pa_cons (pe_op op_add (pe_callB call_len_seq (by rfl) T.len PySem.boot_len (pa_cons (pv 4) pa_nil)) (pe_def D.take r1 pass0 (pa_cons (pv 2) (pa_cons pe_int pa_nil)))) pa_nil)))))) (pg_name (i := 10) nd rfl (.inl rfl))
        (pss_one (ps_if (pt_not (pt_val (pe_def D.same r3 pass0 (pa_cons (pe_def D.ftold hr pass0 (pa_cons (pv 6) (pa_cons (pv 10) pa_nil))) (pa_cons pe_str pa_nil)))))
          (pss_one (ps_ret pe_bl))
          pss_nil)))
      (pss_one (ps_ret (pe_def D.planis r6 pass0 (pa_cons (pv 6) (pa_cons (pv 3) (pa_cons (pv 4) (pa_cons (pv 5) pa_nil)))))))))))))))), ?_⟩
    refine ⟨_, rfl, a, ns, 0, rfl, hS, fun z1 => ⟨z1, rfl, fun p H1 f1 hp0 hp1 => ?_⟩⟩
    refine ⟨_, rfl, a, ns, 2, rfl, f1.same.seq hS, fun z2 => ⟨z2, rfl, fun c H2 f2 hc0 hc2 => ?_⟩⟩
    have ncp : c ≠ p := hp1.ne hc0
    have hp2 := hp1.frm f2 (by simp)
    have f12 : Frm [] H H2 := f1.trans f2
    have hcH : H c = none := f1.free hc0
    refine ⟨_, rfl, p, rfl, hp2, fun H3 wd w1 w2 f3 hp3 => ?_⟩
    have f13 : Frm [] H H3 := f12.drop1 f3 hp0
    have hc3 := hc2.frm f3 (not1 ncp)
    refine ⟨_, rfl, p, rfl, hp3, fun H4 L cas cars hl8 hok f4 hp4 hC4 hL0 => ?_⟩
    have f14 : Frm [] H H4 := f13.drop1 f4 hp0
    have hc4 := hc3.frm f4 (not1 ncp)
    refine ⟨_, rfl, c, 8, rfl, hc4, by decide, by decide, fun H5 d5 hd5 f5 hc5 => ?_⟩
    have f15 : Frm [] H H5 := f14.drop1 f5 hcH
    have hp5 := hp4.frm f5 (not1 ncp.symm)
    have nLc : L ≠ c := hC4.ne hc4
    have hC5 := hC4.frm f5 (not1 nLc)
    refine ⟨rfl, _, rfl, ?_⟩
    apply ifl3 (G := fun Hx Lx => ∃ cas cars, CarsL Hx Lx cas cars ∧ cars.length ≤ 14 ∧ (∀ c ∈ cars, CarOk c) ∧ Frm [] H Hx ∧ PoolAt Hx p ∧ PoolAt Hx c)
    case h =>
      intro hk
      refine ⟨_, rfl, p, 14, 6, 6, rfl, hp5, by decide, by decide, by decide, by decide, fun H6 L' cas' cars' hl' hok' f6 hp6 hC6 hL6 => ?_⟩
      exact hk H6 L' ⟨cas', cars', hC6, by omega, hok', f15.drop1 f6 hp0, hp6, hc5.frm f6 (not1 ncp)⟩
    case h' =>
      intro hk
      exact hk H5 L ⟨cas, cars, hC5, by omega, hok, f15, hp5, hc5⟩
    case hr =>
      clear hok hl8 hC4 hC5 nLc hL0
      rintro H6 L ⟨cas, cars, hC6, hl, hok, f16, hp6, hc6⟩
      refine ⟨_, rfl, a, ns, 1, rfl, f16.same.seq hS, fun z3 => ⟨z3, rfl, fun p3 H7 f7 hp30 hp37 => ?_⟩⟩
      have f17 : Frm [] H H7 := f16.trans f7
      have hp3H : H p3 = none := f16.free hp30
      have hC7 := hC6.frm f7 (by simp)
      have hc7 := hc6.frm f7 (by simp)
      have n3c : p3 ≠ c := hc6.ne hp30
      refine ⟨_, rfl, _, rfl, p3, wd, L, cas, cars, rfl, hp37, hC7, by omega, hl, hok, fun H8 R ras rows B f8 hR8 hR0 hras0 => ?_⟩
      have f18 : Frm [] H H8 := f17.drop1 f8 hp3H
      have nLp3 : L ≠ p3 := hC7.ne hp37
      have hC8 := hC7.frm f8 (not1 nLp3)
      have hc8 := hc7.frm f8 (not1 n3c.symm)
      have nRc : R ≠ c := hc7.ne hR0
      have rasc : ∀ x ∈ ras, x ≠ c := fun x hx => hc7.ne (hras0 x hx)
      refine ⟨_, rfl, _, rfl, _, rfl, wd, L, cas, cars, R, ras, rows, rfl, hC8, hR8, B, w1, w2, hl, hok, fun H9 O Tt S has f9 hP9 hS0 => ?_⟩
      have f19 : Frm [] H H9 := f18.trans f9
      have nSc : S ≠ c := hc8.ne hS0
      have nSL : S ≠ L := ne_new hC8.1 hS0
      have nSR : S ≠ R := ne_new hR8.1 hS0
      have rasS : ∀ x ∈ ras, x ≠ S := fun x hx e => hR8.2.free (H0 := H) hS0 (e ▸ hx)
      have hSH : H S = none := f18.free hS0
      have hRH : H R = none := f17.free hR0
      have N9 : Now C H9 c O Tt S L R wd cas cars has ras rows := ⟨hP9, hC8.frm f9 (by simp), hR8.frm f9 (by simp) (by simp), B, hc8.frm f9 (by simp), rasc, rasS⟩
      have h72 := hoursOf_72 hok
      -- three turns
      refine ⟨3, rfl, by decide, by decide, for_range (lo := 0) (n := 3) (fun i σ H' => ∃ v7 v8 v9 has ras rows, σ = [some (.ref a), some (.ref p), some (.ref c), some (iv wd), some (.ref L), some (.ref R), some (.ref O), v7, v8, v9, none] ∧ Frm [] H H' ∧ Now C H' c O Tt S L R wd cas cars has ras rows)
        ⟨none, none, none, has, ras, rows, rfl, f19, N9⟩ ?_ ?_⟩
      · clear N9 hP9 B hR8 rasc rasS hras0
        rintro i σ H10 hi ⟨v7, v8, v9, has, ras, rows, rfl, f10, N10⟩
        rw [z0]
        refine ⟨_, rfl, rfl, _, rfl, ?_⟩
        apply ifl2 (G := fun H1 => ∃ has ras rows, Frm [] H H1 ∧ Now C H1 c O Tt S L R wd cas cars has ras rows)
        case h =>
          intro hk
          refine ⟨_, rfl, _, rfl, _, rfl, _, rfl, _, rfl, c, O, Tt, S, wd, L, cas, cars, R, ras, rows, cas, has, rfl, N10.po, N10.cl, N10.rl, N10.pl, N10.ok, w2, hl, hok, nRc, nSc, N10.rc, nSL, nSR, N10.rs, fun H11 has' ras' rows' B' f11 hc11 hC11 hP11 hR11 hnew => ?_⟩
          refine hk H11 ⟨has', ras', rows', ?_, ⟨hP11, hC11, hR11, B', hc11, fun x hx => ?_, fun x hx => ?_⟩⟩
          · intro b o e
            rcases f10 b o e with q | ⟨hm, _⟩
            · refine .inl (f11.at q ?_)
              simp
              exact ⟨ne_of_none e hcH, ne_of_none e hSH, ne_of_none e hRH⟩
            · cases hm
          · rcases hnew x hx with q | q
            · exact N10.rc x q
            · exact N10.po.ne q
          · rcases hnew x hx with q | q
            · exact N10.rs x q
            · exact ne_new N10.pl.hs q
        case h' =>
          intro hk
          exact hk H10 ⟨has, ras, rows, f10, N10⟩
        case hr =>
          clear N10 f10
          rintro H11 ⟨has, ras, rows, f11, N11⟩
          have hZ := N11.ok.sized hl hok
          refine ⟨_, rfl, L, _, rfl, .inl (SqL.of N11.cl.1), cars.length, (by rw [N11.cl.len]), by omega, by omega, for_range (lo := 0) (n := cars.length) (fun j σ H' => ∃ v8 v9, σ = [some (.ref a), some (.ref p), some (.ref c), some (iv wd), some (.ref L), some (.ref R), some (.ref O), some (iv i), v8, v9, none] ∧ Frm [] H H' ∧ Now C H' c O Tt S L R wd cas cars has ras rows) ⟨v8, v9, rfl, f11, N11⟩ ?_ ?_⟩
          · rintro j σ H12 hj ⟨v8, v9, rfl, f12', N12⟩
            rw [z0]
            have hc : cars[j]? = some cars[j] := List.getElem?_eq_getElem hj
            generalize cars[j] = cj at hc
            refine ⟨_, rfl, _, rfl, O, Tt, S, wd, cas, cars, has, rows, j, rfl, N12.pl, hZ, fun j' c' ej hc' => ?_, fun q => absurd ⟨by omega, by omega⟩ q⟩
            obtain rfl : j = j' := by omega
            rw [hc] at hc'
            cases hc'
            refine ⟨fun hno H13 f13' => ?_, fun H13 Lt as ps hne hch f13' hLt eLt hO => ?_⟩
            · have N13 := N12.frm f13'
              refine ⟨_, rfl, rfl, _, rfl, ifd rfl ?_⟩
              refine ⟨_, rfl, _, rfl, _, rfl, _, rfl, wd, L, cas, cars, R, ras, rows, j, _, rfl, N13.ok.lists hl hok N13.cl N13.rl, hc, hno, fun H14 f14' => ?_⟩
              exact ⟨_, rfl, iteF ⟨_, _, rfl, (f12'.trans f13').trans f14', N13.frm f14'⟩⟩
            · have N13 := N12.frm f13'
              refine ⟨_, rfl, rfl, _, rfl, ifdn (by intro q; cases q) ?_⟩
              refine ⟨_, rfl, _, rfl, _, rfl, _, rfl, _, rfl, wd, L, cas, cars, R, ras, rows, Lt, as, ps, j, _, rfl, N13.ok.lists hl hok N13.cl N13.rl, hc, hne, ⟨eLt, hO⟩, hch, fun H14 f14' => ?_⟩
              have eLt4 := f14'.at eLt (by simp)
              have N14 := N13.frm f14'
              have f24 : Frm [] H H14 := (f12'.trans f13').trans f14'
              have f24' : Frm [] H12 H14 := f13'.trans f14'
              have hal : as.length ≤ 14 := by have := hch.lens.2; have := hO.1; rw [List.length_map] at this; omega
              refine ⟨_, rfl, iteF ?_⟩
              refine ⟨_, rfl, .inl ⟨rfl, _, SqL.of eLt4⟩, (by show 2 ≤ sizeLine; decide), fun tp htp => ?_⟩
              have ntp : Lt ≠ tp := ne_of_none eLt4 htp
              refine ⟨Lt, _, _, rfl, rfl, (by rw [upd_ne ntp]; exact eLt4), small1000 (by rw [List.length_map]; omega), ?_⟩
              have g1 : Frm [] H14 (upd H14 tp (.tup [.int 0, .int 0])) := Frm.new htp
              have fx : Frm [] H12 (upd (upd H14 tp (.tup [.int 0, .int 0])) Lt (.lst (refs as ++ [.ref tp]))) := (f24'.trans g1).put hLt
              exact ⟨_, _, rfl, f12'.trans fx, N12.frm fx⟩
          · rintro σ H12 ⟨v8, v9, rfl, f12', N12⟩
            exact ⟨_, _, _, has, ras, rows, rfl, f12', N12⟩
      · clear N9 hP9 B hR8 rasc rasS hras0
        rintro σ H10 ⟨v7, v8, v9, has, ras, rows, rfl, f10, N10⟩
        have hZ := N10.ok.sized hl hok
        have hsz : rows.length ≤ 72 := by have := N10.ok.n; omega
        refine ⟨_, _, rfl, rfl, _, rfl, L, _, rfl, .inl (SqL.of N10.cl.1), _, _, rfl, rfl, _, rfl, L, _, rfl, .inl (SqL.of N10.cl.1), _, rfl, L, _, rfl, .inl (SqL.of N10.cl.1), ?_⟩
        refine ⟨_, rfl, c, 50, rfl, N10.po, by decide, by decide, fun H11 d hd f11 hc11 => ⟨_, _, rfl, rfl, ?_⟩⟩
        have hC11 := N10.cl.frm f11 (not1 (N10.cl.ne N10.po))
        have hR11 := N10.rl.frm f11 (not1 nRc) (fun x hx => not1 (N10.rc x hx))
        have hP11 := N10.pl.frm f11 (not1 nSc)
        rw [N10.cl.len]
        refine ⟨(by show 4 ≤ sizeLine; decide), fun Sl hSl => ?_⟩
        have eS : upd H11 Sl (.lst [.int (0 - 1), .int (0 - (cars.length : Nat)), .int (cars.length : Nat), .int ((cars.length : Nat) + (d : Nat))]) Sl = some (.lst [.int (0 - 1), .int (0 - (cars.length : Nat)), .int (cars.length : Nat), .int ((cars.length : Nat) + (d : Nat))]) := upd_same
        have gS : Frm [] H11 (upd H11 Sl (.lst [.int (0 - 1), .int (0 - (cars.length : Nat)), .int (cars.length : Nat), .int ((cars.length : Nat) + (d : Nat))])) := Frm.new hSl
        refine ⟨Sl, rfl, ⟨_, SqL.of eS⟩, ?_⟩
        generalize upd H11 Sl (.lst [.int (0 - 1), .int (0 - (cars.length : Nat)), .int (cars.length : Nat), .int ((cars.length : Nat) + (d : Nat))]) = H12 at eS gS ⊢
        have hP12 := hP11.frm gS (by simp)
        have hR12 := hR11.frm gS (by simp) (by simp)
        have hC12 := hC11.frm gS (by simp)
        refine for_list (K := K) (a := Sl) (xs := [.int (0 - 1), .int (0 - (cars.length : Nat)), .int (cars.length : Nat), .int ((cars.length : Nat) + (d : Nat))]) (fun j σ H' => ∃ v10, σ = [some (.ref a), some (.ref p), some (.ref c), some (iv wd), some (.ref L), some (.ref R), some (.ref O), v7, v8, v9, v10] ∧ Frm [] H12 H') ⟨none, rfl, Frm.refl⟩ (fun j σ H' _ ⟨_, _, f⟩ => SqL.of (f.at eS (by simp))) ?_ ?_
        · rintro j y σ H13 hj ⟨v10, rfl, f13'⟩
          obtain ⟨z, rfl, hz⟩ : ∃ z : Int, y = .int z ∧ ¬ (0 ≤ z ∧ z < cars.length) := by
            have hm := List.mem_of_getElem? hj
            rcases List.mem_cons.mp hm with e | hm
            · exact ⟨_, e, by omega⟩
            rcases List.mem_cons.mp hm with e | hm
            · exact ⟨_, e, by omega⟩
            rcases List.mem_cons.mp hm with e | hm
            · exact ⟨_, e, by omega⟩
            · exact ⟨_, List.mem_singleton.mp hm, by omega⟩
          refine ⟨_, rfl, _, rfl, O, Tt, S, wd, cas, cars, has, rows, z, rfl, hP12.frm f13' (by simp), hZ, hz, fun H14 f14' => ?_⟩
          exact ⟨_, _, rfl, .str _, _, rfl, iteF ⟨_, rfl, f13'.trans f14'⟩⟩
        · rintro σ H13 ⟨v10, rfl, f13'⟩
          exact ⟨_, rfl, _, rfl, _, rfl, _, rfl, O, Tt, S, wd, L, cas, cars, R, ras, rows, cas, has, rfl, hC12.frm f13' (by simp), hR12.frm f13' (by simp) (by simp), hP12.frm f13' (by simp), N10.ok, w2, hl, hsz, fun H14 f14' => k H14⟩
end
end Oc
-- LE
set_option Elab.async false
set_option linter.all false
set_option maxRecDepth 100000
set_option maxHeartbeats 4000000
/-! What the top has written gives all that the law leans on. -/
namespace Oc
open PySem PySem.Spec PyProof.Rows L2
theorem exm_same {K : PySem.W.Frag} {S : Addr} (hb : PySem.W.subIn K (.ref S) (.type "BaseException") = some true) (hc : PySem.W.isClsIn K S = true) (ht : PySem.W.typeIn K (.ref S) = some (.type "type")) (hs : PySem.W.subIn K (.ref S) (.ref S) = some true) : PySem.W.exmOne K (.ref S) (.ref S) = some true := by
  have hc' : (PySem.W.clsIn K S).isSome = true := hc
  unfold PySem.W.exmOne
  rw [hb, if_pos (by rfl)]
  show (if ((PySem.W.clsIn K S).isSome && PySem.W.typeIn K (.ref S) == some (.type "type")) = true then PySem.W.subIn K (.ref S) (.ref S) else none) = some true
  rw [ht, hc', if_pos (by rfl)]
  exact hs
set_option maxHeartbeats 0 in
theorem all_mk {P : Program} {w : World} {K : PySem.W.Frag} {h : Heap} {mg : Str → Option Value} {fa C CB fI cc cda fcell fpool ftake fsame fday flot froomL fhours fthere fgotL fpicked fsome freach fplanis fplanned freset fischain fnochain ftold fftold flaw ffree fchainto ffind fckday fdayhours finit fckcar fckhour finwin fsethour fgot flack fhoursof froom ftotal flen fiter fget fsetitem : Addr} (X : K.In h) (G : h.Ns mainGlobals mg) (hfa : mg "law" = some (.ref fa))
    {odcell ancell odpool anpool odtake antake odsame ansame odday anday odlot anlot odroomL anroomL odhours anhours odthere anthere odgotL angotL odpicked anpicked odsome ansome odreach anreach odplanis anplanis odplanned anplanned odreset anreset odischain anischain odnochain annochain odtold antold odftold anftold odlaw anlaw odfree anfree odchainto anchainto odfind anfind odckday anckday oddayhours andayhours odinit aninit odckcar anckcar odckhour anckhour odinwin aninwin odsethour ansethour odgot angot odlack anlack odhoursof anhoursof odroom anroom odtotal antotal odlen anlen oditer aniter odget anget odsetitem ansetitem odI anI cdd celd : Option Addr} {slcell slpool sltake slsame slday sllot slroomL slhours slthere slgotL slpicked slsome slreach slplanis slplanned slreset slischain slnochain sltold slftold sllaw slfree slchainto slfind slckday sldayhours slinit slckcar slckhour slinwin slsethour slgot sllack slhoursof slroom sltotal sllen sliter slget slsetitem slI ccs cels : Array (Option Value)} {occell kVcell dccell pmcell cdcell ctcell ocpool kVpool dcpool pmpool cdpool ctpool octake kVtake dctake pmtake cdtake cttake ocsame kVsame dcsame pmsame cdsame ctsame ocday kVday dcday pmday cdday ctday oclot kVlot dclot pmlot cdlot ctlot ocroomL kVroomL dcroomL pmroomL cdroomL ctroomL ochours kVhours dchours pmhours cdhours cthours octhere kVthere dcthere pmthere cdthere ctthere ocgotL kVgotL dcgotL pmgotL cdgotL ctgotL ocpicked kVpicked dcpicked pmpicked cdpicked ctpicked ocsome kVsome dcsome pmsome cdsome ctsome ocreach kVreach dcreach pmreach cdreach ctreach ocplanis kVplanis dcplanis pmplanis cdplanis ctplanis ocplanned kVplanned dcplanned pmplanned cdplanned ctplanned ocreset kVreset dcreset pmreset cdreset ctreset ocischain kVischain dcischain pmischain cdischain ctischain ocnochain kVnochain dcnochain pmnochain cdnochain ctnochain octold kVtold dctold pmtold cdtold cttold ocftold kVftold dcftold pmftold cdftold ctftold oclaw kVlaw dclaw pmlaw cdlaw ctlaw ocfree kVfree dcfree pmfree cdfree ctfree occhainto kVchainto dcchainto pmchainto cdchainto ctchainto ocfind kVfind dcfind pmfind cdfind ctfind occkday kVckday dcckday pmckday cdckday ctckday ocdayhours kVdayhours dcdayhours pmdayhours cddayhours ctdayhours ocinit kVinit dcinit pminit cdinit ctinit occkcar kVckcar dcckcar pmckcar cdckcar ctckcar occkhour kVckhour dcckhour pmckhour cdckhour ctckhour ocinwin kVinwin dcinwin pminwin cdinwin ctinwin ocsethour kVsethour dcsethour pmsethour cdsethour ctsethour ocgot kVgot dcgot pmgot cdgot ctgot oclack kVlack dclack pmlack cdlack ctlack ochoursof kVhoursof dchoursof pmhoursof cdhoursof cthoursof ocroom kVroom dcroom pmroom cdroom ctroom octotal kVtotal dctotal pmtotal cdtotal cttotal oclen kVlen dclen pmlen cdlen ctlen ociter kViter dciter pmiter cditer ctiter ocget kVget dcget pmget cdget ctget ocsetitem kVsetitem dcsetitem pmsetitem cdsetitem ctsetitem ocI dcI pmI ctI ccl cel : Value}
    {nm qn : Str} {N : Addr} {bs bm : List Value} {sn : List Str} {sub : List Value} {ab : Bool} {col : Option Bool} {dd : Option Addr} {m0 m1 m2 m3 m5 : Option Value} {cvs : Array Value} {cfile : Str} {ctf tWIDEST tMOST_CARS tLATEST tLONGEST_STAY : Tok}
    (hPlan : PySem.W.nsIn K mainGlobals "Plan" = some (some (.ref C)))
    (hBad : PySem.W.nsIn K mainGlobals "BadPlan" = some (some (.ref CB)))
    (hacell : PySem.W.nsIn K mainGlobals "_law_cell" = some (some (.ref fcell)))
    (hlcell : K.lookup fcell = some ⟨occell, odcell, .func (PySem.W.fnOf "_law_cell" "_law_cell" (defArgs sCell) (defBody sCell) (defScope sCell) .none kVcell dccell pmcell ancell cdcell ctcell), slcell⟩)
    (hccell : PySem.W.codeIn K cdcell "_law_cell" = true)
    (hkcell : PySem.W.keepIn K (.ref fcell) = true)
    (hapool : PySem.W.nsIn K mainGlobals "_law_pool" = some (some (.ref fpool)))
    (hlpool : K.lookup fpool = some ⟨ocpool, odpool, .func (PySem.W.fnOf "_law_pool" "_law_pool" (defArgs sPool) (defBody sPool) (defScope sPool) .none kVpool dcpool pmpool anpool cdpool ctpool), slpool⟩)
    (hcpool : PySem.W.codeIn K cdpool "_law_pool" = true)
    (hkpool : PySem.W.keepIn K (.ref fpool) = true)
    (hatake : PySem.W.nsIn K mainGlobals "_law_take" = some (some (.ref ftake)))
    (hltake : K.lookup ftake = some ⟨octake, odtake, .func (PySem.W.fnOf "_law_take" "_law_take" (defArgs sTake) (defBody sTake) (defScope sTake) .none kVtake dctake pmtake antake cdtake cttake), sltake⟩)
    (hctake : PySem.W.codeIn K cdtake "_law_take" = true)
    (hktake : PySem.W.keepIn K (.ref ftake) = true)
    (hasame : PySem.W.nsIn K mainGlobals "_law_same" = some (some (.ref fsame)))
    (hlsame : K.lookup fsame = some ⟨ocsame, odsame, .func (PySem.W.fnOf "_law_same" "_law_same" (defArgs sSame) (defBody sSame) (defScope sSame) .none kVsame dcsame pmsame ansame cdsame ctsame), slsame⟩)
    (hcsame : PySem.W.codeIn K cdsame "_law_same" = true)
    (hksame : PySem.W.keepIn K (.ref fsame) = true)
    (haday : PySem.W.nsIn K mainGlobals "_law_day" = some (some (.ref fday)))
    (hlday : K.lookup fday = some ⟨ocday, odday, .func (PySem.W.fnOf "_law_day" "_law_day" (defArgs sDay) (defBody sDay) (defScope sDay) .none kVday dcday pmday anday cdday ctday), slday⟩)
    (hcday : PySem.W.codeIn K cdday "_law_day" = true)
    (hkday : PySem.W.keepIn K (.ref fday) = true)
    (halot : PySem.W.nsIn K mainGlobals "_law_lot" = some (some (.ref flot)))
    (hllot : K.lookup flot = some ⟨oclot, odlot, .func (PySem.W.fnOf "_law_lot" "_law_lot" (defArgs sLot) (defBody sLot) (defScope sLot) .none kVlot dclot pmlot anlot cdlot ctlot), sllot⟩)
    (hclot : PySem.W.codeIn K cdlot "_law_lot" = true)
    (hklot : PySem.W.keepIn K (.ref flot) = true)
    (haroomL : PySem.W.nsIn K mainGlobals "_law_room" = some (some (.ref froomL)))
    (hlroomL : K.lookup froomL = some ⟨ocroomL, odroomL, .func (PySem.W.fnOf "_law_room" "_law_room" (defArgs sRoomL) (defBody sRoomL) (defScope sRoomL) .none kVroomL dcroomL pmroomL anroomL cdroomL ctroomL), slroomL⟩)
    (hcroomL : PySem.W.codeIn K cdroomL "_law_room" = true)
    (hkroomL : PySem.W.keepIn K (.ref froomL) = true)
    (hahours : PySem.W.nsIn K mainGlobals "_law_hours" = some (some (.ref fhours)))
    (hlhours : K.lookup fhours = some ⟨ochours, odhours, .func (PySem.W.fnOf "_law_hours" "_law_hours" (defArgs sHours) (defBody sHours) (defScope sHours) .none kVhours dchours pmhours anhours cdhours cthours), slhours⟩)
    (hchours : PySem.W.codeIn K cdhours "_law_hours" = true)
    (hkhours : PySem.W.keepIn K (.ref fhours) = true)
    (hathere : PySem.W.nsIn K mainGlobals "_law_there" = some (some (.ref fthere)))
    (hlthere : K.lookup fthere = some ⟨octhere, odthere, .func (PySem.W.fnOf "_law_there" "_law_there" (defArgs sThere) (defBody sThere) (defScope sThere) .none kVthere dcthere pmthere anthere cdthere ctthere), slthere⟩)
    (hcthere : PySem.W.codeIn K cdthere "_law_there" = true)
    (hkthere : PySem.W.keepIn K (.ref fthere) = true)
    (hagotL : PySem.W.nsIn K mainGlobals "_law_got" = some (some (.ref fgotL)))
    (hlgotL : K.lookup fgotL = some ⟨ocgotL, odgotL, .func (PySem.W.fnOf "_law_got" "_law_got" (defArgs sGotL) (defBody sGotL) (defScope sGotL) .none kVgotL dcgotL pmgotL angotL cdgotL ctgotL), slgotL⟩)
    (hcgotL : PySem.W.codeIn K cdgotL "_law_got" = true)
    (hkgotL : PySem.W.keepIn K (.ref fgotL) = true)
    (hapicked : PySem.W.nsIn K mainGlobals "_law_picked" = some (some (.ref fpicked)))
    (hlpicked : K.lookup fpicked = some ⟨ocpicked, odpicked, .func (PySem.W.fnOf "_law_picked" "_law_picked" (defArgs sPicked) (defBody sPicked) (defScope sPicked) .none kVpicked dcpicked pmpicked anpicked cdpicked ctpicked), slpicked⟩)
    (hcpicked : PySem.W.codeIn K cdpicked "_law_picked" = true)
    (hkpicked : PySem.W.keepIn K (.ref fpicked) = true)
    (hasome : PySem.W.nsIn K mainGlobals "_law_some_plan" = some (some (.ref fsome)))
    (hlsome : K.lookup fsome = some ⟨ocsome, odsome, .func (PySem.W.fnOf "_law_some_plan" "_law_some_plan" (defArgs sSomePlan) (defBody sSomePlan) (defScope sSomePlan) .none kVsome dcsome pmsome ansome cdsome ctsome), slsome⟩)
    (hcsome : PySem.W.codeIn K cdsome "_law_some_plan" = true)
    (hksome : PySem.W.keepIn K (.ref fsome) = true)
    (hareach : PySem.W.nsIn K mainGlobals "_law_reach" = some (some (.ref freach)))
    (hlreach : K.lookup freach = some ⟨ocreach, odreach, .func (PySem.W.fnOf "_law_reach" "_law_reach" (defArgs sReach) (defBody sReach) (defScope sReach) .none kVreach dcreach pmreach anreach cdreach ctreach), slreach⟩)
    (hcreach : PySem.W.codeIn K cdreach "_law_reach" = true)
    (hkreach : PySem.W.keepIn K (.ref freach) = true)
    (haplanis : PySem.W.nsIn K mainGlobals "_law_plan_is" = some (some (.ref fplanis)))
    (hlplanis : K.lookup fplanis = some ⟨ocplanis, odplanis, .func (PySem.W.fnOf "_law_plan_is" "_law_plan_is" (defArgs sPlanIs) (defBody sPlanIs) (defScope sPlanIs) .none kVplanis dcplanis pmplanis anplanis cdplanis ctplanis), slplanis⟩)
    (hcplanis : PySem.W.codeIn K cdplanis "_law_plan_is" = true)
    (hkplanis : PySem.W.keepIn K (.ref fplanis) = true)
    (haplanned : PySem.W.nsIn K mainGlobals "_law_planned" = some (some (.ref fplanned)))
    (hlplanned : K.lookup fplanned = some ⟨ocplanned, odplanned, .func (PySem.W.fnOf "_law_planned" "_law_planned" (defArgs sPlanned) (defBody sPlanned) (defScope sPlanned) .none kVplanned dcplanned pmplanned anplanned cdplanned ctplanned), slplanned⟩)
    (hcplanned : PySem.W.codeIn K cdplanned "_law_planned" = true)
    (hkplanned : PySem.W.keepIn K (.ref fplanned) = true)
    (hareset : PySem.W.nsIn K mainGlobals "_law_reset" = some (some (.ref freset)))
    (hlreset : K.lookup freset = some ⟨ocreset, odreset, .func (PySem.W.fnOf "_law_reset" "_law_reset" (defArgs sReset) (defBody sReset) (defScope sReset) .none kVreset dcreset pmreset anreset cdreset ctreset), slreset⟩)
    (hcreset : PySem.W.codeIn K cdreset "_law_reset" = true)
    (hkreset : PySem.W.keepIn K (.ref freset) = true)
    (haischain : PySem.W.nsIn K mainGlobals "_law_is_chain" = some (some (.ref fischain)))
    (hlischain : K.lookup fischain = some ⟨ocischain, odischain, .func (PySem.W.fnOf "_law_is_chain" "_law_is_chain" (defArgs sIsChain) (defBody sIsChain) (defScope sIsChain) .none kVischain dcischain pmischain anischain cdischain ctischain), slischain⟩)
    (hcischain : PySem.W.codeIn K cdischain "_law_is_chain" = true)
    (hkischain : PySem.W.keepIn K (.ref fischain) = true)
    (hanochain : PySem.W.nsIn K mainGlobals "_law_no_chain" = some (some (.ref fnochain)))
    (hlnochain : K.lookup fnochain = some ⟨ocnochain, odnochain, .func (PySem.W.fnOf "_law_no_chain" "_law_no_chain" (defArgs sNoChain) (defBody sNoChain) (defScope sNoChain) .none kVnochain dcnochain pmnochain annochain cdnochain ctnochain), slnochain⟩)
    (hcnochain : PySem.W.codeIn K cdnochain "_law_no_chain" = true)
    (hknochain : PySem.W.keepIn K (.ref fnochain) = true)
    (hatold : PySem.W.nsIn K mainGlobals "_law_chain_told" = some (some (.ref ftold)))
    (hltold : K.lookup ftold = some ⟨octold, odtold, .func (PySem.W.fnOf "_law_chain_told" "_law_chain_told" (defArgs sChainTold) (defBody sChainTold) (defScope sChainTold) .none kVtold dctold pmtold antold cdtold cttold), sltold⟩)
    (hctold : PySem.W.codeIn K cdtold "_law_chain_told" = true)
    (hktold : PySem.W.keepIn K (.ref ftold) = true)
    (haftold : PySem.W.nsIn K mainGlobals "_law_find_told" = some (some (.ref fftold)))
    (hlftold : K.lookup fftold = some ⟨ocftold, odftold, .func (PySem.W.fnOf "_law_find_told" "_law_find_told" (defArgs sFindTold) (defBody sFindTold) (defScope sFindTold) .none kVftold dcftold pmftold anftold cdftold ctftold), slftold⟩)
    (hcftold : PySem.W.codeIn K cdftold "_law_find_told" = true)
    (hkftold : PySem.W.keepIn K (.ref fftold) = true)
    (halaw : PySem.W.nsIn K mainGlobals "law" = some (some (.ref flaw)))
    (hllaw : K.lookup flaw = some ⟨oclaw, odlaw, .func (PySem.W.fnOf "law" "law" (defArgs sLaw) (defBody sLaw) (defScope sLaw) .none kVlaw dclaw pmlaw anlaw cdlaw ctlaw), sllaw⟩)
    (hclaw : PySem.W.codeIn K cdlaw "law" = true)
    (hklaw : PySem.W.keepIn K (.ref flaw) = true)
    (hafree : PySem.W.nsIn K mainGlobals "free_hours" = some (some (.ref ffree)))
    (hlfree : K.lookup ffree = some ⟨ocfree, odfree, .func (PySem.W.fnOf "free_hours" "free_hours" (defArgs sFree) (defBody sFree) (defScope sFree) .none kVfree dcfree pmfree anfree cdfree ctfree), slfree⟩)
    (hcfree : PySem.W.codeIn K cdfree "free_hours" = true)
    (hkfree : PySem.W.keepIn K (.ref ffree) = true)
    (hachainto : PySem.W.nsIn K mainGlobals "chain_to" = some (some (.ref fchainto)))
    (hlchainto : K.lookup fchainto = some ⟨occhainto, odchainto, .func (PySem.W.fnOf "chain_to" "chain_to" (defArgs sChainTo) (defBody sChainTo) (defScope sChainTo) .none kVchainto dcchainto pmchainto anchainto cdchainto ctchainto), slchainto⟩)
    (hcchainto : PySem.W.codeIn K cdchainto "chain_to" = true)
    (hkchainto : PySem.W.keepIn K (.ref fchainto) = true)
    (hafind : PySem.W.nsIn K mainGlobals "find_chain" = some (some (.ref ffind)))
    (hlfind : K.lookup ffind = some ⟨ocfind, odfind, .func (PySem.W.fnOf "find_chain" "find_chain" (defArgs sFind) (defBody sFind) (defScope sFind) .none kVfind dcfind pmfind anfind cdfind ctfind), slfind⟩)
    (hcfind : PySem.W.codeIn K cdfind "find_chain" = true)
    (hkfind : PySem.W.keepIn K (.ref ffind) = true)
    (hackday : PySem.W.nsIn K mainGlobals "check_day" = some (some (.ref fckday)))
    (hlckday : K.lookup fckday = some ⟨occkday, odckday, .func (PySem.W.fnOf "check_day" "check_day" (defArgs sCheckDay) (defBody sCheckDay) (defScope sCheckDay) .none kVckday dcckday pmckday anckday cdckday ctckday), slckday⟩)
    (hcckday : PySem.W.codeIn K cdckday "check_day" = true)
    (hkckday : PySem.W.keepIn K (.ref fckday) = true)
    (hadayhours : PySem.W.nsIn K mainGlobals "day_hours" = some (some (.ref fdayhours)))
    (hldayhours : K.lookup fdayhours = some ⟨ocdayhours, oddayhours, .func (PySem.W.fnOf "day_hours" "day_hours" (defArgs sDayHours) (defBody sDayHours) (defScope sDayHours) .none kVdayhours dcdayhours pmdayhours andayhours cddayhours ctdayhours), sldayhours⟩)
    (hcdayhours : PySem.W.codeIn K cddayhours "day_hours" = true)
    (hkdayhours : PySem.W.keepIn K (.ref fdayhours) = true)
    (hainit : PySem.W.findIn K (.ref C) "__init__" = some (some (.ref finit)))
    (hiinit : PySem.W.isFn K (.ref finit) = true)
    (hlinit : K.lookup finit = some ⟨ocinit, odinit, .func (PySem.W.fnOf "__init__" "Plan.__init__" (defArgs sInit) (defBody sInit) (defScope sInit) .none kVinit dcinit pminit aninit cdinit ctinit), slinit⟩)
    (hcinit : PySem.W.codeIn K cdinit "Plan.__init__" = true)
    (hkinit : PySem.W.keepIn K (.ref finit) = true)
    (hackcar : PySem.W.findIn K (.ref C) "_check_car" = some (some (.ref fckcar)))
    (hickcar : PySem.W.isFn K (.ref fckcar) = true)
    (hlckcar : K.lookup fckcar = some ⟨occkcar, odckcar, .func (PySem.W.fnOf "_check_car" "Plan._check_car" (defArgs sCkCar) (defBody sCkCar) (defScope sCkCar) .none kVckcar dcckcar pmckcar anckcar cdckcar ctckcar), slckcar⟩)
    (hcckcar : PySem.W.codeIn K cdckcar "Plan._check_car" = true)
    (hkckcar : PySem.W.keepIn K (.ref fckcar) = true)
    (hackhour : PySem.W.findIn K (.ref C) "_check_hour" = some (some (.ref fckhour)))
    (hickhour : PySem.W.isFn K (.ref fckhour) = true)
    (hlckhour : K.lookup fckhour = some ⟨occkhour, odckhour, .func (PySem.W.fnOf "_check_hour" "Plan._check_hour" (defArgs sCkHour) (defBody sCkHour) (defScope sCkHour) .none kVckhour dcckhour pmckhour anckhour cdckhour ctckhour), slckhour⟩)
    (hcckhour : PySem.W.codeIn K cdckhour "Plan._check_hour" = true)
    (hkckhour : PySem.W.keepIn K (.ref fckhour) = true)
    (hainwin : PySem.W.findIn K (.ref C) "in_window" = some (some (.ref finwin)))
    (hiinwin : PySem.W.isFn K (.ref finwin) = true)
    (hlinwin : K.lookup finwin = some ⟨ocinwin, odinwin, .func (PySem.W.fnOf "in_window" "Plan.in_window" (defArgs sInWin) (defBody sInWin) (defScope sInWin) .none kVinwin dcinwin pminwin aninwin cdinwin ctinwin), slinwin⟩)
    (hcinwin : PySem.W.codeIn K cdinwin "Plan.in_window" = true)
    (hkinwin : PySem.W.keepIn K (.ref finwin) = true)
    (hasethour : PySem.W.findIn K (.ref C) "set_hour" = some (some (.ref fsethour)))
    (hisethour : PySem.W.isFn K (.ref fsethour) = true)
    (hlsethour : K.lookup fsethour = some ⟨ocsethour, odsethour, .func (PySem.W.fnOf "set_hour" "Plan.set_hour" (defArgs sSetHour) (defBody sSetHour) (defScope sSetHour) .none kVsethour dcsethour pmsethour ansethour cdsethour ctsethour), slsethour⟩)
    (hcsethour : PySem.W.codeIn K cdsethour "Plan.set_hour" = true)
    (hksethour : PySem.W.keepIn K (.ref fsethour) = true)
    (hagot : PySem.W.findIn K (.ref C) "got" = some (some (.ref fgot)))
    (higot : PySem.W.isFn K (.ref fgot) = true)
    (hlgot : K.lookup fgot = some ⟨ocgot, odgot, .func (PySem.W.fnOf "got" "Plan.got" (defArgs sGot) (defBody sGot) (defScope sGot) .none kVgot dcgot pmgot angot cdgot ctgot), slgot⟩)
    (hcgot : PySem.W.codeIn K cdgot "Plan.got" = true)
    (hkgot : PySem.W.keepIn K (.ref fgot) = true)
    (halack : PySem.W.findIn K (.ref C) "lack" = some (some (.ref flack)))
    (hilack : PySem.W.isFn K (.ref flack) = true)
    (hllack : K.lookup flack = some ⟨oclack, odlack, .func (PySem.W.fnOf "lack" "Plan.lack" (defArgs sLack) (defBody sLack) (defScope sLack) .none kVlack dclack pmlack anlack cdlack ctlack), sllack⟩)
    (hclack : PySem.W.codeIn K cdlack "Plan.lack" = true)
    (hklack : PySem.W.keepIn K (.ref flack) = true)
    (hahoursof : PySem.W.findIn K (.ref C) "hours_of" = some (some (.ref fhoursof)))
    (hihoursof : PySem.W.isFn K (.ref fhoursof) = true)
    (hlhoursof : K.lookup fhoursof = some ⟨ochoursof, odhoursof, .func (PySem.W.fnOf "hours_of" "Plan.hours_of" (defArgs sHoursOf) (defBody sHoursOf) (defScope sHoursOf) .none kVhoursof dchoursof pmhoursof anhoursof cdhoursof cthoursof), slhoursof⟩)
    (hchoursof : PySem.W.codeIn K cdhoursof "Plan.hours_of" = true)
    (hkhoursof : PySem.W.keepIn K (.ref fhoursof) = true)
    (haroom : PySem.W.findIn K (.ref C) "room" = some (some (.ref froom)))
    (hiroom : PySem.W.isFn K (.ref froom) = true)
    (hlroom : K.lookup froom = some ⟨ocroom, odroom, .func (PySem.W.fnOf "room" "Plan.room" (defArgs sRoom) (defBody sRoom) (defScope sRoom) .none kVroom dcroom pmroom anroom cdroom ctroom), slroom⟩)
    (hcroom : PySem.W.codeIn K cdroom "Plan.room" = true)
    (hkroom : PySem.W.keepIn K (.ref froom) = true)
    (hatotal : PySem.W.findIn K (.ref C) "total" = some (some (.ref ftotal)))
    (hitotal : PySem.W.isFn K (.ref ftotal) = true)
    (hltotal : K.lookup ftotal = some ⟨octotal, odtotal, .func (PySem.W.fnOf "total" "Plan.total" (defArgs sTotal) (defBody sTotal) (defScope sTotal) .none kVtotal dctotal pmtotal antotal cdtotal cttotal), sltotal⟩)
    (hctotal : PySem.W.codeIn K cdtotal "Plan.total" = true)
    (hktotal : PySem.W.keepIn K (.ref ftotal) = true)
    (halen : PySem.W.findIn K (.ref C) "__len__" = some (some (.ref flen)))
    (hilen : PySem.W.isFn K (.ref flen) = true)
    (hllen : K.lookup flen = some ⟨oclen, odlen, .func (PySem.W.fnOf "__len__" "Plan.__len__" (defArgs sLen) (defBody sLen) (defScope sLen) .none kVlen dclen pmlen anlen cdlen ctlen), sllen⟩)
    (hclen : PySem.W.codeIn K cdlen "Plan.__len__" = true)
    (hklen : PySem.W.keepIn K (.ref flen) = true)
    (haiter : PySem.W.findIn K (.ref C) "__iter__" = some (some (.ref fiter)))
    (hiiter : PySem.W.isFn K (.ref fiter) = true)
    (hliter : K.lookup fiter = some ⟨ociter, oditer, .func (PySem.W.fnOf "__iter__" "Plan.__iter__" (defArgs sIter) (defBody sIter) (defScope sIter) .none kViter dciter pmiter aniter cditer ctiter), sliter⟩)
    (hciter : PySem.W.codeIn K cditer "Plan.__iter__" = true)
    (hkiter : PySem.W.keepIn K (.ref fiter) = true)
    (haget : PySem.W.findIn K (.ref C) "__getitem__" = some (some (.ref fget)))
    (higet : PySem.W.isFn K (.ref fget) = true)
    (hlget : K.lookup fget = some ⟨ocget, odget, .func (PySem.W.fnOf "__getitem__" "Plan.__getitem__" (defArgs sGetItem) (defBody sGetItem) (defScope sGetItem) .none kVget dcget pmget anget cdget ctget), slget⟩)
    (hcget : PySem.W.codeIn K cdget "Plan.__getitem__" = true)
    (hkget : PySem.W.keepIn K (.ref fget) = true)
    (hasetitem : PySem.W.findIn K (.ref C) "__setitem__" = some (some (.ref fsetitem)))
    (hisetitem : PySem.W.isFn K (.ref fsetitem) = true)
    (hlsetitem : K.lookup fsetitem = some ⟨ocsetitem, odsetitem, .func (PySem.W.fnOf "__setitem__" "Plan.__setitem__" (defArgs sSetItem) (defBody sSetItem) (defScope sSetItem) .none kVsetitem dcsetitem pmsetitem ansetitem cdsetitem ctsetitem), slsetitem⟩)
    (hcsetitem : PySem.W.codeIn K cdsetitem "Plan.__setitem__" = true)
    (hksetitem : PySem.W.keepIn K (.ref fsetitem) = true)
    (hpg : PySem.W.plainGet K C Str.empty = true)
    (hhd : PySem.W.hasDictIn K C = true)
    (hpo : PySem.W.plainOver K C = true)
    (hsa : PySem.W.findIn K (.ref C) "__setattr__" = some (some (.builtin "object.__setattr__")))
    (hmk : PySem.W.makesIn K C = true)
    (hkc : PySem.W.keepIn K (.ref C) = true)
    (hnW : PySem.W.findIn K (.ref C) "width" = some none)
    (hnC : PySem.W.findIn K (.ref C) "cars" = some none)
    (hnH : PySem.W.findIn K (.ref C) "hours_served" = some none)
    (hfg : PySem.W.fnIn K fget = true)
    (hns : PySem.W.noSeq K C = true)
    (hgWIDEST : PySem.W.nsIn K mainGlobals "WIDEST" = some (some (.int 12 tWIDEST)))
    (hgMOST_CARS : PySem.W.nsIn K mainGlobals "MOST_CARS" = some (some (.int 60 tMOST_CARS)))
    (hgLATEST : PySem.W.nsIn K mainGlobals "LATEST" = some (some (.int 60 tLATEST)))
    (hgLONGEST_STAY : PySem.W.nsIn K mainGlobals "LONGEST_STAY" = some (some (.int 12 tLONGEST_STAY)))
    (hzlen : PySem.W.nsIn K mainGlobals "len" = some none)
    (hzrange : PySem.W.nsIn K mainGlobals "range" = some none)
    (hzmax : PySem.W.nsIn K mainGlobals "max" = some none)
    (hztuple : PySem.W.nsIn K mainGlobals "tuple" = some none)
    (hzint : PySem.W.nsIn K mainGlobals "int" = some none)
    (hzabs : PySem.W.nsIn K mainGlobals "abs" = some none)
    (hzisinst : PySem.W.nsIn K mainGlobals "isinstance" = some none)
    (hzbool : PySem.W.nsIn K mainGlobals "bool" = some none)
    (hzstr : PySem.W.nsIn K mainGlobals "str" = some none)
    (hzlist : PySem.W.nsIn K mainGlobals "list" = some none)
    (hzsum : PySem.W.nsIn K mainGlobals "sum" = some none)
    (hzsorted : PySem.W.nsIn K mainGlobals "sorted" = some none)
    (hzenumerate : PySem.W.nsIn K mainGlobals "enumerate" = some none)
    (hziter : PySem.W.nsIn K mainGlobals "iter" = some none)
    (hzsuper : PySem.W.nsIn K mainGlobals "super" = some none)
    (hbl : K.lookup CB = some (excClassObj nm qn CB N bs bm true sn sub ab col dd m0 m1 m2 m3 m5 "ValueError.__new__"))
    (hbv : PySem.HandSPX.refsVE bm = true)
    (hbsa : PySem.W.findIn K (.ref CB) "__setattr__" = some (some (.builtin "object.__setattr__")))
    (hbga : PySem.W.findIn K (.ref CB) "__getattribute__" = some (some (.builtin "BaseException.__getattribute__")))
    (hbgg : PySem.W.findIn K (.ref CB) "__getattr__" = some none)
    (hbn : PySem.W.findIn K (.ref CB) "part" = some none)
    (hbi : PySem.W.findIn K (.ref CB) "__init__" = some (some (.ref fI)))
    (hbt : PySem.W.typeIn K (.ref fI) = some (.type "function"))
    (hbk : PySem.W.keepIn K (.ref CB) = true)
    (hbe : PySem.W.subIn K (.ref CB) (.type "BaseException") = some true)
    (hbve : PySem.W.subIn K (.ref CB) (.type "ValueError") = some true)
    (hbty : PySem.W.typeIn K (.ref CB) = some (.type "type"))
    (hbhd : PySem.W.hasDictIn K CB = true)
    (hbic : PySem.W.isClsIn K CB = true)
    (hbss : PySem.W.subIn K (.ref CB) (.ref CB) = some true)
    (hbm : PySem.W.mroIn K CB (.ref CB) = some true)
    (hbfl : K.lookup fI = some ⟨ocI, odI, .func (PySem.W.ksFn "__init__" "BadPlan.__init__" (defArgs sBp) (defBody sBp) (defScope sBp) .none .none dcI pmI anI (.ref cda) ctI cc), slI⟩)
    (hbfc : PySem.W.codeIn K (.ref cda) "BadPlan.__init__" = true)
    (hbcd : K.lookup cda = some ⟨ccl, cdd, .fields cvs, ccs⟩)
    (hbcv : cvs[2]? = some (.str cfile ctf))
    (hbcf : ((P.main.file : Str) == cfile) = true)
    (hbce : K.lookup cc = some ⟨cel, celd, .cell (some (.ref CB)), cels⟩)
    (hbsu : PySem.W.ks_superIn K CB CB "__init__" = some (some (.builtin "ValueError.__init__")))
    (hbop : PySem.W.nsIn K cStatics "thirdparty.any" = some none)
    (hbtp : (P.main.scope.names.lookup ("super" : Str)).isSome = false)
    : ∃ fd : FuncData, (∀ (s : Shared) (v : Value), BindsTo s fd ⟨[v], []⟩ [("_law_script", v)]) ∧ ∀ base : Heap, K.In base → base.Ns mainGlobals mg → FnOk P w K mg base CX0 8 fa fd ["_law_script"] (spLaw K) := by
  have e := hfa.symm.trans (PySem.W.mg_of X G halaw)
  cases e
  have T : Txt K mg := ⟨PySem.W.mg_none_of X G hzlen, PySem.W.mg_none_of X G hzrange, PySem.W.mg_none_of X G hzmax, PySem.W.mg_none_of X G hztuple, PySem.W.mg_none_of X G hzint, PySem.W.mg_none_of X G hzabs, PySem.W.mg_none_of X G hzisinst, PySem.W.mg_none_of X G hzbool, PySem.W.mg_none_of X G hzstr, PySem.W.mg_none_of X G hzlist, PySem.W.mg_none_of X G hzsum, PySem.W.mg_none_of X G hzsorted, PySem.W.mg_none_of X G hzenumerate, PySem.W.mg_none_of X G hziter⟩
  have PC : PlanC K C := ⟨⟨hpg, hhd, hpo, hsa⟩, hnW, hnC, hnH, fun f q => by rw [haget] at q; cases q; exact hfg, hns⟩
  have Gc : Cst mg := ⟨⟨_, PySem.W.mg_of X G hgWIDEST⟩, ⟨_, PySem.W.mg_of X G hgMOST_CARS⟩, ⟨_, PySem.W.mg_of X G hgLATEST⟩, ⟨_, PySem.W.mg_of X G hgLONGEST_STAY⟩⟩
  have BT : BpTxt P K mg CB fI cc cda := { gC := PySem.W.mg_of X G hBad, gS := PySem.W.mg_none_of X G hzsuper, cls := ⟨nm, qn, N, bs, bm, sn, sub, ab, col, dd, m0, m1, m2, m3, m5, hbl, hbv⟩, sa := hbsa, ga := hbga, gg := hbgg, noN := hbn, iC := hbi, tC := hbt, kC := hbk, exC := hbe, veC := hbve, tyC := hbty, hdC := hbhd, te := exm_same hbe hbic hbty hbss, mr := hbm, su := hbsu, op := hbop, fn := ⟨ocI, odI, dcI, pmI, anI, ctI, slI, hbfl, hbfc⟩, cd := ⟨ccl, cdd, cvs, ccs, cfile, ctf, hbcd, hbcv, hbcf⟩, ce := ⟨cel, celd, cels, hbce⟩, tp := hbtp }
  have Fcell := fun_mk (st := sCell) hlcell hccell hkcell
  have Fpool := fun_mk (st := sPool) hlpool hcpool hkpool
  have Ftake := fun_mk (st := sTake) hltake hctake hktake
  have Fsame := fun_mk (st := sSame) hlsame hcsame hksame
  have Fday := fun_mk (st := sDay) hlday hcday hkday
  have Flot := fun_mk (st := sLot) hllot hclot hklot
  have FroomL := fun_mk (st := sRoomL) hlroomL hcroomL hkroomL
  have Fhours := fun_mk (st := sHours) hlhours hchours hkhours
  have Fthere := fun_mk (st := sThere) hlthere hcthere hkthere
  have FgotL := fun_mk (st := sGotL) hlgotL hcgotL hkgotL
  have Fpicked := fun_mk (st := sPicked) hlpicked hcpicked hkpicked
  have Fsome := fun_mk (st := sSomePlan) hlsome hcsome hksome
  have Freach := fun_mk (st := sReach) hlreach hcreach hkreach
  have Fplanis := fun_mk (st := sPlanIs) hlplanis hcplanis hkplanis
  have Fplanned := fun_mk (st := sPlanned) hlplanned hcplanned hkplanned
  have Freset := fun_mk (st := sReset) hlreset hcreset hkreset
  have Fischain := fun_mk (st := sIsChain) hlischain hcischain hkischain
  have Fnochain := fun_mk (st := sNoChain) hlnochain hcnochain hknochain
  have Ftold := fun_mk (st := sChainTold) hltold hctold hktold
  have Fftold := fun_mk (st := sFindTold) hlftold hcftold hkftold
  have Flaw := fun_mk (st := sLaw) hllaw hclaw hklaw
  have Ffree := fun_mk (st := sFree) hlfree hcfree hkfree
  have Fchainto := fun_mk (st := sChainTo) hlchainto hcchainto hkchainto
  have Ffind := fun_mk (st := sFind) hlfind hcfind hkfind
  have Fckday := fun_mk (st := sCheckDay) hlckday hcckday hkckday
  have Fdayhours := fun_mk (st := sDayHours) hldayhours hcdayhours hkdayhours
  have Finit := fun_mk (st := sInit) hlinit hcinit hkinit
  have Fckcar := fun_mk (st := sCkCar) hlckcar hcckcar hkckcar
  have Fckhour := fun_mk (st := sCkHour) hlckhour hcckhour hkckhour
  have Finwin := fun_mk (st := sInWin) hlinwin hcinwin hkinwin
  have Fsethour := fun_mk (st := sSetHour) hlsethour hcsethour hksethour
  have Fgot := fun_mk (st := sGot) hlgot hcgot hkgot
  have Flack := fun_mk (st := sLack) hllack hclack hklack
  have Fhoursof := fun_mk (st := sHoursOf) hlhoursof hchoursof hkhoursof
  have Froom := fun_mk (st := sRoom) hlroom hcroom hkroom
  have Ftotal := fun_mk (st := sTotal) hltotal hctotal hktotal
  have Flen := fun_mk (st := sLen) hllen hclen hklen
  have Fiter := fun_mk (st := sIter) hliter hciter hkiter
  have Fget := fun_mk (st := sGetItem) hlget hcget hkget
  have Fsetitem := fun_mk (st := sSetItem) hlsetitem hcsetitem hksetitem
  have gcell := PySem.W.mg_of X G hacell
  have gpool := PySem.W.mg_of X G hapool
  have gtake := PySem.W.mg_of X G hatake
  have gsame := PySem.W.mg_of X G hasame
  have gday := PySem.W.mg_of X G haday
  have glot := PySem.W.mg_of X G halot
  have groomL := PySem.W.mg_of X G haroomL
  have ghours := PySem.W.mg_of X G hahours
  have gthere := PySem.W.mg_of X G hathere
  have ggotL := PySem.W.mg_of X G hagotL
  have gpicked := PySem.W.mg_of X G hapicked
  have gsome := PySem.W.mg_of X G hasome
  have greach := PySem.W.mg_of X G hareach
  have gplanis := PySem.W.mg_of X G haplanis
  have gplanned := PySem.W.mg_of X G haplanned
  have greset := PySem.W.mg_of X G hareset
  have gischain := PySem.W.mg_of X G haischain
  have gnochain := PySem.W.mg_of X G hanochain
  have gtold := PySem.W.mg_of X G hatold
  have gftold := PySem.W.mg_of X G haftold
  have glaw := PySem.W.mg_of X G halaw
  have gfree := PySem.W.mg_of X G hafree
  have gchainto := PySem.W.mg_of X G hachainto
  have gfind := PySem.W.mg_of X G hafind
  have gckday := PySem.W.mg_of X G hackday
  have gdayhours := PySem.W.mg_of X G hadayhours
  have Minit : Meth K C "__init__" finit := ⟨hainit, hiinit, hkinit⟩
  have Mckcar : Meth K C "_check_car" fckcar := ⟨hackcar, hickcar, hkckcar⟩
  have Mckhour : Meth K C "_check_hour" fckhour := ⟨hackhour, hickhour, hkckhour⟩
  have Minwin : Meth K C "in_window" finwin := ⟨hainwin, hiinwin, hkinwin⟩
  have Msethour : Meth K C "set_hour" fsethour := ⟨hasethour, hisethour, hksethour⟩
  have Mgot : Meth K C "got" fgot := ⟨hagot, higot, hkgot⟩
  have Mlack : Meth K C "lack" flack := ⟨halack, hilack, hklack⟩
  have Mhoursof : Meth K C "hours_of" fhoursof := ⟨hahoursof, hihoursof, hkhoursof⟩
  have Mroom : Meth K C "room" froom := ⟨haroom, hiroom, hkroom⟩
  have Mtotal : Meth K C "total" ftotal := ⟨hatotal, hitotal, hktotal⟩
  have Mlen : Meth K C "__len__" flen := ⟨halen, hilen, hklen⟩
  have Miter : Meth K C "__iter__" fiter := ⟨haiter, hiiter, hkiter⟩
  have Mget : Meth K C "__getitem__" fget := ⟨haget, higet, hkget⟩
  have Msetitem : Meth K C "__setitem__" fsetitem := ⟨hasetitem, hisetitem, hksetitem⟩
  refine ⟨PySem.W.fnOf "law" "law" (defArgs sLaw) (defBody sLaw) (defScope sLaw) .none kVlaw dclaw pmlaw anlaw cdlaw ctlaw, fun s v => .of_eq rfl, fun base _ _ => ?_⟩
  have Dcell : DefAt P w K mg base CX0 1 "_law_cell" ["_law_script", "_law_at"] (spCell K) := d_cell Fcell gcell T
  have Dpool : DefAt P w K mg base CX0 1 "_law_pool" ["_law_cell_here"] spPool := d_pool Fpool gpool
  have Dtake : DTake P w K mg base := d_take Ftake gtake T
  have Dday : DDay P w K mg base := d_day Fday gday T Dtake
  have Dlot : DefAt P w K mg base CX0 3 "_law_lot" ["_law_pool_here", "_law_most"] spLot := d_lot Flot glot Dtake Dday
  have Droom : DefAt P w K mg base CX0 2 "_law_room" ["_law_pool_here"] spRoomL := d_roomL FroomL groomL Dtake
  have Dhours : DHours P w K mg base := d_hours Fhours ghours
  have Dthere : DThere P w K mg base := d_there Fthere gthere
  have DgotL : DGotL P w K mg base := d_gotL FgotL ggotL T
  have Dsame : DSame P w K mg base := d_sameS Fsame gsame T (d_sameS Fsame gsame T (d_sameS Fsame gsame T (d_same0 Fsame gsame)))
  have Dsome : DefAt P w K mg base CX0 2 "_law_some_plan" ["_law_pool_here", "_law_width", "_law_cars"] spSomePlan := d_someplan Fsome gsome T Dtake Dhours Dthere DgotL
  have Dpicked : DPicked P w K mg base := d_picked Fpicked gpicked T Dtake Dthere DgotL
  have Dreach : DReach P w K mg base := d_reach Freach greach T
  have Dnochain : DefAt P w K mg base CX0 2 "_law_no_chain" ["_law_width", "_law_cars", "_law_rows", "_law_number"] spNoChain := d_nochain Fnochain gnochain T DgotL Dreach
  have Dischain : DIsChain P w K mg base := d_ischain Fischain gischain T DgotL Dthere
  have Dtold : DefAt P w K mg base CX0 3 "_law_chain_told" ["_law_width", "_law_cars", "_law_rows", "_law_number", "_law_told"] spChainTold := d_chaintold Ftold gtold T Dischain
  have Dckday : DefAt P w K mg base CX0 1 "check_day" ["width", "cars"] spCkDay := d_ckday Fckday gckday T Gc
  have Ddayhours : DefAt P w K mg base CX0 3 "day_hours" ["cars"] spDayHours := d_dayhours Fdayhours gdayhours T
  have Oinit : FnOk P w K mg base CX0 4 finit _ ["self", "width", "cars"] (spInit C) := ok_init Finit T PC Dckday Ddayhours
  have Mcc : MCkCar P w K mg base C CB := m_ckcar Fckcar Mckcar T PC BT
  have Mch : MCkHour P w K mg base C := m_ckhour Fckhour Mckhour T PC
  have Miw : MInWin P w K mg base C := m_inwin Finwin Minwin PC
  have Mgo : MGot P w K mg base C CB := m_got Fgot Mgot T PC Mcc
  have Mla : MLack P w K mg base C CB := m_lack Flack Mlack PC Mgo
  have Mho : MethAt P w K mg base CX0 4 C "hours_of" ["self", "number"] (spHoursOf C) := m_hoursof Fhoursof Mhoursof T PC Mcc
  have Mro : MRoom P w K mg base C := m_room Froom Mroom T PC Mch
  have Mto : MethAt P w K mg base CX0 1 C "total" ["self"] (spTotal C) := m_total Ftotal Mtotal T PC
  have Mle : MethAt P w K mg base CX0 1 C "__len__" ["self"] (spLen C) := m_len Flen Mlen T PC
  have Mit : MethAt P w K mg base CX0 1 C "__iter__" ["self"] (spIter C) := m_iter Fiter Miter T PC
  have Mge : MGet P w K mg base C := m_get Fget Mget PC Mch
  have Msh : MSetHour P w K mg base C := m_sethour Fsethour Msethour T PC Mch Mcc Miw Mgo
  have Msi : MSetItem P w K mg base C := m_setitem Fsetitem Msetitem PC Msh
  have Dfree : DFree P w K mg base C := d_free Ffree gfree T PC Mge
  have Dchainto : DChainTo P w K mg base := d_chainto Fchainto gchainto
  have Dfind : DFind P w K mg base C CB := d_find Ffind gfind T PC Mla Mge Mro Dfree Dchainto
  have binit := Finit.binds (ps := ["self", "width", "cars"]) fun _ _ _ _ _ _ us hl => match us, hl with | [_, _, _], _ => rfl
  have Dplanned : DefAt P w K mg base CX0 6 "_law_planned" ["_law_width", "_law_cars", "_law_rows"] (spPlanned C) := d_planned Fplanned gplanned T PC ⟨hmk, hainit, hiinit, hkc⟩ Oinit binit (PySem.W.mg_of X G hPlan) Msh
  have Dreset : DefAt P w K mg base CX0 7 "_law_reset" ["_law_pool_here", "_law_plan", "_law_width", "_law_cars", "_law_rows"] (spReset C) := d_reset Freset greset T PC Dtake Dpicked Msh Msi
  have Dplanis : DefAt P w K mg base CX0 6 "_law_plan_is" ["_law_plan", "_law_width", "_law_cars", "_law_rows"] (spPlanIs C) := d_planis Fplanis gplanis T PC Dsame Mle Mit Mto Mge Mro Mho Mgo Mla
  have Dftold : DefAt P w K mg base CX0 7 "_law_find_told" ["_law_plan", "_law_number"] (spFindTold C) := d_findtold Fftold gftold T BT Dfind
  exact ok_law (C := C) (CB := CB) Flaw T ⟨Dcell, Dpool, Dtake, Droom, Dlot, Dday, Dsome, Dplanned, Dreset, Dfind, Dnochain, Dtold, Dftold, Dsame, Dplanis⟩
theorem walk {l : PySem.W.OpenLaw} {q : Program} {loose : List Str} {XP : (Str → Option Value) → Heap → Prop} {YP : World → Heap → Prop} {d : DefRec} {K : Params → PySem.W.Frag} (hn : l.most = some 63) (hdf : d.params.defaults = [])
    (hY : ∀ (w : World) (h : Heap), YP w h → (K w.params).In h)
    (F : ∀ (w : World) (mg : Str → Option Value) (fa : Addr) (h : Heap), (K w.params).In h → h.Ns mainGlobals mg → mg d.name = some (.ref fa) →
      ∃ fd : FuncData, (∀ (s : Shared) (u : Value), BindsTo s fd ⟨[u], []⟩ [("_law_script", u)]) ∧ ∀ base : Heap, (K w.params).In base → base.Ns mainGlobals mg → FnOk l.prog w (K w.params) mg base CX0 8 fa fd ["_law_script"] (spLaw (K w.params))) :
    PySem.W.WalkO q loose XP YP l.row.toRowW d [] (fun f vs => PySem.call f vs) :=
  L2.walk_of (n := 63) (k := 8) (x := "_law_script") (CX := fun _ => CX0) (sp := fun w => spLaw (K w.params)) hn (by decide) hdf ⟨rfl, by decide, by decide⟩ hY F (fun _ _ a ns hl _ hS => ⟨a, ns, rfl, hS, fun _ => rfl⟩) fun _ _ _ _ _ z => z
end Oc
open PySem PySem.W PyProof.Rows in
set_option maxRecDepth 100000 in
set_option maxHeartbeats 0 in
theorem PySem.Challenge.cw_onecable_k31_whole_chain_or_closed_sets_holds : PySem.Challenge.rw_onecable_k31_whole_chain_or_closed_sets.Holds := by
  w_on; o_law; k_head; (case hw => w_witness2)
  k_fill
  refine Oc.walk (l := PySem.Challenge.rw_onecable_k31_whole_chain_or_closed_sets) rfl rfl (fun w h Y => PySem.W.kIn_of Y) ?F
  case F =>
    intro w mg fa h KX G hmg
    refine' Oc.all_mk (P := PySem.Challenge.rw_onecable_k31_whole_chain_or_closed_sets.prog) KX G hmg ?hPlan ?hBad ?hacell ?hlcell ?hccell ?hkcell ?hapool ?hlpool ?hcpool ?hkpool ?hatake ?hltake ?hctake ?hktake ?hasame ?hlsame ?hcsame ?hksame ?haday ?hlday ?hcday ?hkday ?halot ?hllot ?hclot ?hklot ?haroomL ?hlroomL ?hcroomL ?hkroomL ?hahours ?hlhours ?hchours ?hkhours ?hathere ?hlthere ?hcthere ?hkthere ?hagotL ?hlgotL ?hcgotL ?hkgotL ?hapicked ?hlpicked ?hcpicked ?hkpicked ?hasome ?hlsome ?hcsome ?hksome ?hareach ?hlreach ?hcreach ?hkreach ?haplanis ?hlplanis ?hcplanis ?hkplanis ?haplanned ?hlplanned ?hcplanned ?hkplanned ?hareset ?hlreset ?hcreset ?hkreset ?haischain ?hlischain ?hcischain ?hkischain ?hanochain ?hlnochain ?hcnochain ?hknochain ?hatold ?hltold ?hctold ?hktold ?haftold ?hlftold ?hcftold ?hkftold ?halaw ?hllaw ?hclaw ?hklaw ?hafree ?hlfree ?hcfree ?hkfree ?hachainto ?hlchainto ?hcchainto ?hkchainto ?hafind ?hlfind ?hcfind ?hkfind ?hackday ?hlckday ?hcckday ?hkckday ?hadayhours ?hldayhours ?hcdayhours ?hkdayhours ?hainit ?hiinit ?hlinit ?hcinit ?hkinit ?hackcar ?hickcar ?hlckcar ?hcckcar ?hkckcar ?hackhour ?hickhour ?hlckhour ?hcckhour ?hkckhour ?hainwin ?hiinwin ?hlinwin ?hcinwin ?hkinwin ?hasethour ?hisethour ?hlsethour ?hcsethour ?hksethour ?hagot ?higot ?hlgot ?hcgot ?hkgot ?halack ?hilack ?hllack ?hclack ?hklack ?hahoursof ?hihoursof ?hlhoursof ?hchoursof ?hkhoursof ?haroom ?hiroom ?hlroom ?hcroom ?hkroom ?hatotal ?hitotal ?hltotal ?hctotal ?hktotal ?halen ?hilen ?hllen ?hclen ?hklen ?haiter ?hiiter ?hliter ?hciter ?hkiter ?haget ?higet ?hlget ?hcget ?hkget ?hasetitem ?hisetitem ?hlsetitem ?hcsetitem ?hksetitem ?hpg ?hhd ?hpo ?hsa ?hmk ?hkc ?hnW ?hnC ?hnH ?hfg ?hns ?hgWIDEST ?hgMOST_CARS ?hgLATEST ?hgLONGEST_STAY ?hzlen ?hzrange ?hzmax ?hztuple ?hzint ?hzabs ?hzisinst ?hzbool ?hzstr ?hzlist ?hzsum ?hzsorted ?hzenumerate ?hziter ?hzsuper ?hbl ?hbv ?hbsa ?hbga ?hbgg ?hbn ?hbi ?hbt ?hbk ?hbe ?hbve ?hbty ?hbhd ?hbic ?hbss ?hbm ?hbfl ?hbfc ?hbcd ?hbcv ?hbcf ?hbce ?hbsu ?hbop ?hbtp
    (case hPlan => k_is)
    (case hBad => k_is)
    (case hacell => k_is)
    (case hlcell => k_is)
    (case hccell => k_is)
    (case hkcell => k_is)
    (case hapool => k_is)
    (case hlpool => k_is)
    (case hcpool => k_is)
    (case hkpool => k_is)
    (case hatake => k_is)
    (case hltake => k_is)
    (case hctake => k_is)
    (case hktake => k_is)
    (case hasame => k_is)
    (case hlsame => k_is)
    (case hcsame => k_is)
    (case hksame => k_is)
    (case haday => k_is)
    (case hlday => k_is)
    (case hcday => k_is)
    (case hkday => k_is)
    (case halot => k_is)
    (case hllot => k_is)
    (case hclot => k_is)
    (case hklot => k_is)
    (case haroomL => k_is)
    (case hlroomL => k_is)
    (case hcroomL => k_is)
    (case hkroomL => k_is)
    (case hahours => k_is)
    (case hlhours => k_is)
    (case hchours => k_is)
    (case hkhours => k_is)
    (case hathere => k_is)
    (case hlthere => k_is)
    (case hcthere => k_is)
    (case hkthere => k_is)
    (case hagotL => k_is)
    (case hlgotL => k_is)
    (case hcgotL => k_is)
    (case hkgotL => k_is)
    (case hapicked => k_is)
    (case hlpicked => k_is)
    (case hcpicked => k_is)
    (case hkpicked => k_is)
    (case hasome => k_is)
    (case hlsome => k_is)
    (case hcsome => k_is)
    (case hksome => k_is)
    (case hareach => k_is)
    (case hlreach => k_is)
    (case hcreach => k_is)
    (case hkreach => k_is)
    (case haplanis => k_is)
    (case hlplanis => k_is)
    (case hcplanis => k_is)
    (case hkplanis => k_is)
    (case haplanned => k_is)
    (case hlplanned => k_is)
    (case hcplanned => k_is)
    (case hkplanned => k_is)
    (case hareset => k_is)
    (case hlreset => k_is)
    (case hcreset => k_is)
    (case hkreset => k_is)
    (case haischain => k_is)
    (case hlischain => k_is)
    (case hcischain => k_is)
    (case hkischain => k_is)
    (case hanochain => k_is)
    (case hlnochain => k_is)
    (case hcnochain => k_is)
    (case hknochain => k_is)
    (case hatold => k_is)
    (case hltold => k_is)
    (case hctold => k_is)
    (case hktold => k_is)
    (case haftold => k_is)
    (case hlftold => k_is)
    (case hcftold => k_is)
    (case hkftold => k_is)
    (case halaw => k_is)
    (case hllaw => k_is)
    (case hclaw => k_is)
    (case hklaw => k_is)
    (case hafree => k_is)
    (case hlfree => k_is)
    (case hcfree => k_is)
    (case hkfree => k_is)
    (case hachainto => k_is)
    (case hlchainto => k_is)
    (case hcchainto => k_is)
    (case hkchainto => k_is)
    (case hafind => k_is)
    (case hlfind => k_is)
    (case hcfind => k_is)
    (case hkfind => k_is)
    (case hackday => k_is)
    (case hlckday => k_is)
    (case hcckday => k_is)
    (case hkckday => k_is)
    (case hadayhours => k_is)
    (case hldayhours => k_is)
    (case hcdayhours => k_is)
    (case hkdayhours => k_is)
    (case hainit => k_is)
    (case hiinit => k_is)
    (case hlinit => k_is)
    (case hcinit => k_is)
    (case hkinit => k_is)
    (case hackcar => k_is)
    (case hickcar => k_is)
    (case hlckcar => k_is)
    (case hcckcar => k_is)
    (case hkckcar => k_is)
    (case hackhour => k_is)
    (case hickhour => k_is)
    (case hlckhour => k_is)
    (case hcckhour => k_is)
    (case hkckhour => k_is)
    (case hainwin => k_is)
    (case hiinwin => k_is)
    (case hlinwin => k_is)
    (case hcinwin => k_is)
    (case hkinwin => k_is)
    (case hasethour => k_is)
    (case hisethour => k_is)
    (case hlsethour => k_is)
    (case hcsethour => k_is)
    (case hksethour => k_is)
    (case hagot => k_is)
    (case higot => k_is)
    (case hlgot => k_is)
    (case hcgot => k_is)
    (case hkgot => k_is)
    (case halack => k_is)
    (case hilack => k_is)
    (case hllack => k_is)
    (case hclack => k_is)
    (case hklack => k_is)
    (case hahoursof => k_is)
    (case hihoursof => k_is)
    (case hlhoursof => k_is)
    (case hchoursof => k_is)
    (case hkhoursof => k_is)
    (case haroom => k_is)
    (case hiroom => k_is)
    (case hlroom => k_is)
    (case hcroom => k_is)
    (case hkroom => k_is)
    (case hatotal => k_is)
    (case hitotal => k_is)
    (case hltotal => k_is)
    (case hctotal => k_is)
    (case hktotal => k_is)
    (case halen => k_is)
    (case hilen => k_is)
    (case hllen => k_is)
    (case hclen => k_is)
    (case hklen => k_is)
    (case haiter => k_is)
    (case hiiter => k_is)
    (case hliter => k_is)
    (case hciter => k_is)
    (case hkiter => k_is)
    (case haget => k_is)
    (case higet => k_is)
    (case hlget => k_is)
    (case hcget => k_is)
    (case hkget => k_is)
    (case hasetitem => k_is)
    (case hisetitem => k_is)
    (case hlsetitem => k_is)
    (case hcsetitem => k_is)
    (case hksetitem => k_is)
    (case hpg => k_is)
    (case hhd => k_is)
    (case hpo => k_is)
    (case hsa => k_is)
    (case hmk => k_is)
    (case hkc => k_is)
    (case hnW => k_is)
    (case hnC => k_is)
    (case hnH => k_is)
    (case hfg => k_is)
    (case hns => k_is)
    (case hgWIDEST => k_is)
    (case hgMOST_CARS => k_is)
    (case hgLATEST => k_is)
    (case hgLONGEST_STAY => k_is)
    (case hzlen => k_is)
    (case hzrange => k_is)
    (case hzmax => k_is)
    (case hztuple => k_is)
    (case hzint => k_is)
    (case hzabs => k_is)
    (case hzisinst => k_is)
    (case hzbool => k_is)
    (case hzstr => k_is)
    (case hzlist => k_is)
    (case hzsum => k_is)
    (case hzsorted => k_is)
    (case hzenumerate => k_is)
    (case hziter => k_is)
    (case hzsuper => k_is)
    (case hbl => k_is)
    (case hbv => first | rfl | decide +kernel)
    (case hbsa => k_is)
    (case hbga => k_is)
    (case hbgg => k_is)
    (case hbn => k_is)
    (case hbi => k_is)
    (case hbt => k_is)
    (case hbk => k_is)
    (case hbe => k_is)
    (case hbve => k_is)
    (case hbty => k_is)
    (case hbhd => k_is)
    (case hbic => k_is)
    (case hbss => first | rfl | k_is)
    (case hbm => first | rfl | k_is)
    (case hbfl => k_is)
    (case hbfc => k_is)
    (case hbcd => k_is)
    (case hbcv => rfl)
    (case hbcf => first | rfl | decide +kernel)
    (case hbce => k_is)
    (case hbsu => first | kernel_rfl | rfl)
    (case hbop => k_is)
    (case hbtp => first | rfl | decide +kernel)
