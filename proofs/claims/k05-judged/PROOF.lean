import PyProof.Rows.All
import Wide.All
import OpenK.AllK
import Wide.FinOn
import PyProof.EqAt
import PyProof.EqKinds
import PyProof.TupleCall
import PyProof.ReprRoads
import KE.KSuper
import KE.KExcSuper
import HandS.Base
import HandS.Call
import HandS.List
import HandS.Comp
import HandS.Ends
import HandS.Dict
import HandS.Iter
import HandS.Text
import HandS.More
import HandS.Exc
import HandS.ExcOwn
import HandS.ExcCtx
import HandS.ExcInit
import HandS.ExcSuper
import HandS.ExcField
import HandS.ExcIs
import HandS.TryOnly
import HandS.TryMany
import HandS.IsInst
import HandS.Defaults
import HandS.Words
import HandS.WordsList
import HandS.WordsDict
import HandS.WordsExc
import HandS.Flow
import HandS.Codes
import HandS.HeadEnd
import HandS.HeadHook1
import HandS.HeadHook2
import HandS.HeadHook3
import HandS.HeadHook4
import KE.KExcIs
import PyProof.Rows.RegFStrParts
import PyProof.SeqIndex
import KE.GoesEnum
import HandS.MakeKw
import PyProof.InstNe
import PySem.Challenge.RW_surehaul_k05_whole_courses_judged
import HandS.SuiteRaise
import HandS.RaiseFrom
import HandS.Lambda
import HandS.TupMul
import HandS.TupAny
import HandS.Style
import HandS.EndTab
import HandS.EndOwn
import HandS.HeadWalk
import KE.KNest
import HandS.Head0
import HandS.Head1
import HandS.Head2
set_option Elab.async false
set_option linter.all false
set_option maxRecDepth 100000
set_option maxHeartbeats 4000000
section
/-! ### the framework: promises by names, walks by steps -/
namespace SH
open PySem PySem.Spec PyProof.Rows L2

theorem passN {X : Cx} : Passes (L2N.CX X.prog X.w) X (fun _ _ _ => False) := fun _ _ _ _ _ _ _ h => by
  obtain ⟨_, _, _, _, _, _, _, _, _, _, _, _, q⟩ := h
  exact q.elim
/-! #### defs by their names -/
/-- the module's own name x is a def (the statement st) -/
def TopD (K : PySem.W.Frag) (mg : Str → Option Value) (x : Str) (st : Stmt) : Prop :=
  ∃ f fd, FunD K x x (defArgs st) (defBody st) (defScope st) [] [] f fd ∧ mg x = some (.ref f)
/-- the method m of the class at C (the statement st) -/
def TopM (K : PySem.W.Frag) (C : Addr) (m qual : Str) (st : Stmt) : Prop :=
  ∃ f fd, FunD K m qual (defArgs st) (defBody st) (defScope st) [] [] f fd ∧ Meth K C m f
/-- the class at C is made by its __init__ (the statement st) -/
def TopI (K : PySem.W.Frag) (mg : Str → Option Value) (x : Str) (C : Addr) (qual : Str) (st : Stmt) : Prop :=
  ∃ f fd, FunD K "__init__" qual (defArgs st) (defBody st) (defScope st) [] [] f fd ∧ Mk K C f ∧ mg x = some (.ref C)
section
variable (P : Program) (w : World) (K : PySem.W.Frag) (mg : Str → Option Value) (base : Heap)
/-- the module's name x keeps sp -/
def DefOk (x : Str) (k : Nat) (ps : List Str) (sp : Sp) : Prop :=
  ∃ f fd, FnOk P w K mg base (L2N.CX P w) k f fd ps sp ∧ mg x = some (.ref f) ∧ PySem.W.keepIn K (.ref f) = true ∧ Binds K fd ps []
def MthOk (C : Addr) (m : Str) (k : Nat) (ps : List Str) (sp : Sp) : Prop :=
  ∃ f fd, FnOk P w K mg base (L2N.CX P w) k f fd ps sp ∧ Meth K C m f ∧ Binds K fd ps [] ∧ Cls K C
def MkOk (x : Str) (C : Addr) (k : Nat) (ps : List Str) (sp : Sp) : Prop :=
  ∃ f fd, FnOk P w K mg base (L2N.CX P w) k f fd ps sp ∧ Mk K C f ∧ mg x = some (.ref C) ∧ Binds K fd ps []
end
section
variable {P : Program} {w : World} {K : PySem.W.Frag} {mg : Str → Option Value} {base : Heap} {x qual : Str} {st : Stmt} {N ps : List Str} {k : Nat} {sp : Sp} {C : Addr}
theorem TopD.ok (T : TopD K mg x st) (S : FnScope N ps (defScope st))
    (hb : ∀ (kV doc pm : Value) (an : Option Addr) (cdv ct : Value) (us : List Value), us.length = ps.length → bindArgs (PySem.W.fnOf x x (defArgs st) (defBody st) (defScope st) .none kV doc pm an cdv ct) ⟨us, []⟩ = pure (ps.zip us))
    (len : ∀ vs H Q E, sp vs H Q E → vs.length = ps.length)
    (hbody : ∀ (f : Addr) (cdv : Value) (A : Around) (outer : List Env) (s : Shared) (H : Hp) (vs : List V) (Q : VK) (E : XK), Room k (A.deeper (envOfC x (defScope st) s.heap.objs.size f cdv)) → sp vs H Q E →
      ∃ t, PSs (cxOf (L2N.CX P w) P w K mg base N x (defScope st) f cdv A outer s H E) (defBody st) t ∧ t { nx := fun _ H' => Q .non H', rt := Q } (start N vs) H) : DefOk P w K mg base x (k + 1) ps sp := by
  obtain ⟨f, fd, F, hm⟩ := T
  exact ⟨f, fd, F.ok S len fun cdv A outer s H vs Q E hr h => hbody f cdv A outer s H vs Q E hr h, hm, F.kp, F.bindsN hb⟩
theorem TopM.ok (T : TopM K C x qual st) (c : Cls K C) (S : FnScope N ps (defScope st))
    (hb : ∀ (kV doc pm : Value) (an : Option Addr) (cdv ct : Value) (us : List Value), us.length = ps.length → bindArgs (PySem.W.fnOf x qual (defArgs st) (defBody st) (defScope st) .none kV doc pm an cdv ct) ⟨us, []⟩ = pure (ps.zip us))
    (len : ∀ vs H Q E, sp vs H Q E → vs.length = ps.length)
    (hbody : ∀ (f : Addr) (cdv : Value) (A : Around) (outer : List Env) (s : Shared) (H : Hp) (vs : List V) (Q : VK) (E : XK), Room k (A.deeper (envOfC qual (defScope st) s.heap.objs.size f cdv)) → sp vs H Q E →
      ∃ t, PSs (cxOf (L2N.CX P w) P w K mg base N qual (defScope st) f cdv A outer s H E) (defBody st) t ∧ t { nx := fun _ H' => Q .non H', rt := Q } (start N vs) H) : MthOk P w K mg base C x (k + 1) ps sp := by
  obtain ⟨f, fd, F, hm⟩ := T
  exact ⟨f, fd, F.ok S len fun cdv A outer s H vs Q E hr h => hbody f cdv A outer s H vs Q E hr h, hm, F.bindsN hb, c⟩
theorem TopI.ok (T : TopI K mg x C qual st) (S : FnScope N ps (defScope st))
    (hb : ∀ (kV doc pm : Value) (an : Option Addr) (cdv ct : Value) (us : List Value), us.length = ps.length → bindArgs (PySem.W.fnOf "__init__" qual (defArgs st) (defBody st) (defScope st) .none kV doc pm an cdv ct) ⟨us, []⟩ = pure (ps.zip us))
    (len : ∀ vs H Q E, sp vs H Q E → vs.length = ps.length)
    (hbody : ∀ (f : Addr) (cdv : Value) (A : Around) (outer : List Env) (s : Shared) (H : Hp) (vs : List V) (Q : VK) (E : XK), Room k (A.deeper (envOfC qual (defScope st) s.heap.objs.size f cdv)) → sp vs H Q E →
      ∃ t, PSs (cxOf (L2N.CX P w) P w K mg base N qual (defScope st) f cdv A outer s H E) (defBody st) t ∧ t { nx := fun _ H' => Q .non H', rt := Q } (start N vs) H) : MkOk P w K mg base x C (k + 1) ps sp := by
  obtain ⟨f, fd, F, hm, hx⟩ := T
  exact ⟨f, fd, F.ok S len fun cdv A outer s H vs Q E hr h => hbody f cdv A outer s H vs Q E hr h, hm, hx, F.bindsN hb⟩
end
section
variable {X : Cx} {x m : Str} {k : Nat} {ps : List Str} {sp : Sp} {C : Addr} {E : XK} {p pos apos : Pos} {e o : Expr} {es : List Expr} {ta : TE} {t : TA}
theorem pe_df (D : DefOk X.prog X.w X.K X.mg X.base x k ps sp) (hr : Room k X.A) (hx : Passes (L2N.CX X.prog X.w) X E) (ha : PA X (e :: es) t) (hg : Gl X x := by rfl) (hdb : (x == ("__debug__" : Str)) = false := by decide)
    (hs : starEach (e :: es) X.env = (false, eval e X.env) :: starEach es X.env := by rfl) (hp : (backTo pos (starEach es X.env)).any (·.1) = false := by rfl) : PE X (.Call (.Name x p) (e :: es) [] pos) (tCall sp [] E t) := by
  obtain ⟨f, fd, F, hm, hk, hb⟩ := D
  exact pe_call F hr hg hm hk hb .nil hx ha hdb hs hp
theorem pe_mk (D : MkOk X.prog X.w X.K X.mg X.base x C k ps sp) (hr : Room (k + 1) X.A) (hx : Passes (L2N.CX X.prog X.w) X E) (ha : PA X (e :: es) t) (hg : Gl X x := by rfl) (hdb : (x == ("__debug__" : Str)) = false := by decide)
    (hs : starEach (e :: es) X.env = (false, eval e X.env) :: starEach es X.env := by rfl) (hp : (backTo pos (starEach es X.env)).any (·.1) = false := by rfl) : PE X (.Call (.Name x p) (e :: es) [] pos) (tMake C sp [] E t) := by
  obtain ⟨f, fd, F, hm, hk, hb⟩ := D
  exact pe_make hm F hr hg hk hb .nil hx ha hdb hs hp
end
end SH
namespace SH
open PySem PySem.Spec L2

/-! #### heaps -/
/-- what was tracked is as it was, but for the places S; tuples and what is frozen stay -/
structure Off (S : List Addr) (H H' : Hp) : Prop where
  keep : ∀ a o, a ∉ S → H a = some o → H' a = some o
  tups : ∀ a xs, H a = some (.tup xs) → H' a = some (.tup xs)
  frzs : ∀ a o u, H a = some (.frz o u) → H' a = some (.frz o u)
  live : ∀ a o, H a = some o → ∃ o', H' a = some o'
section
variable {S S' : List Addr} {H H1 H2 H' : Hp} {a b p : Addr} {o u : HO} {K : PySem.W.Frag} {xs : List V}
theorem Off.refl (S : List Addr) (H : Hp) : Off S H H := ⟨fun _ _ _ h => h, fun _ _ h => h, fun _ _ _ h => h, fun _ o h => ⟨o, h⟩⟩
theorem Off.trans (x : Off S H H1) (y : Off S H1 H2) : Off S H H2 :=
  ⟨fun a o n h => y.keep a o n (x.keep a o n h), fun a xs h => y.tups a xs (x.tups a xs h), fun a o u h => y.frzs a o u (x.frzs a o u h), fun a o h => by
    obtain ⟨o', h'⟩ := x.live a o h
    exact y.live a o' h'⟩
theorem Off.mono (x : Off S H H1) (h : ∀ a ∈ S, a ∈ S') : Off S' H H1 := ⟨fun a o n => x.keep a o fun z => n (h a z), x.tups, x.frzs, x.live⟩
theorem Off.new (h : H p = none) : Off S H (upd H p o) :=
  ⟨fun a u _ e => by rw [upd_ne (ne_of_none e h)]; exact e, fun a u e => by rw [upd_ne (ne_of_none e h)]; exact e, fun a u v e => by rw [upd_ne (ne_of_none e h)]; exact e, fun a u e => ⟨u, by rw [upd_ne (ne_of_none e h)]; exact e⟩⟩
theorem Off.put (hm : p ∈ S) (h : H p = some u) (hu : Mut (some u)) : Off S H (upd H p o) := by
  have nt : ∀ {b v}, H b = some v → ¬ Mut (some v) → b ≠ p := fun {b v} e n z => by
    rw [z, h] at e
    cases e
    exact n hu
  exact ⟨fun a u n e => by rw [upd_ne (fun z : a = p => n (by rw [z]; exact hm))]; exact e, fun a u e => by rw [upd_ne (nt e fun z => z)]; exact e, fun a u v e => by rw [upd_ne (nt e fun z => z)]; exact e,
    fun a v e => by
      by_cases q : a = p
      · exact ⟨o, by rw [q, upd_same]⟩
      · exact ⟨v, by rw [upd_ne q]; exact e⟩⟩
theorem Off.at (x : Off S H H') (n : a ∉ S) (h : H a = some o) : H' a = some o := x.keep a o n h
theorem Off.seqL (x : Off S H H') (n : a ∉ S) (h : SqL K H a xs) : SqL K H' a xs := by
  rcases h with (h | ⟨o, h⟩) | h
  · exact .inl (.inl (x.keep _ _ n h))
  · exact .inl (.inr ⟨o, x.frzs _ _ _ h⟩)
  · exact .inr h
theorem Off.seqT (x : Off S H H') (h : SqT K H a xs) : SqT K H' a xs := by
  rcases h with (h | ⟨o, h⟩) | h
  · exact .inl (.inl (x.tups _ _ h))
  · exact .inl (.inr ⟨o, x.frzs _ _ _ h⟩)
  · exact .inr h
theorem Off.back (x : Off S H H') (h : H' p = none) : H p = none := by
  cases q : H p with
  | none => rfl
  | some o =>
    obtain ⟨o', z⟩ := x.live p o q
    rw [h] at z
    cases z
theorem upd_back (h : upd H p o b = none) : H b = none ∧ b ≠ p := by
  by_cases q : b = p
  · rw [q, upd_same] at h; cases h
  · exact ⟨by rw [upd_ne q] at h; exact h, q⟩
theorem upd_new {b : Addr} (h : H b = some u) (hp : H p = none) : upd H p o b = some u := by rw [upd_ne (ne_of_none h hp)]; exact h
theorem nin_nil : a ∉ ([] : List Addr) := by simp
theorem nin_cons {l : List Addr} (h : a ≠ b) (t : a ∉ l) : a ∉ b :: l := by simp [h, t]
theorem in_head {l : List Addr} : a ∈ a :: l := List.mem_cons_self
theorem in_tail {l : List Addr} (h : a ∈ l) : a ∈ b :: l := List.mem_cons_of_mem _ h
end

/-! #### steps of readings -/
def isB (x : V) (H : Hp) (Q : Bool → Hp → Prop) : Prop := ∃ k, x = .bl k ∧ Q k H
def br (b : Bool) (A B : Prop) : Prop := if b = true then A else B
def mkT (xs : List V) (H : Hp) (Q : VK) : Prop := xs.length ≤ sizeLine ∧ ∀ p, H p = none → Q (.ref p) (upd H p (.tup xs))
def mkL (xs : List V) (H : Hp) (Q : VK) : Prop := xs.length ≤ sizeLine ∧ ∀ p, H p = none → Q (.ref p) (upd H p (.lst xs))
def fldR (K : PySem.W.Frag) (f : Str) (x : V) (H : Hp) (Q : VK) : Prop := ∃ a C dx fs v, x = .ref a ∧ H a = some (.ins C dx fs) ∧ Cls K C ∧ NoAttr K C f ∧ fs.lookup f = some v ∧ Q v H
def insR (C : Addr) (m : Str) (x : V) (H : Hp) (A : Prop) : Prop := ∃ a dx fs, x = .ref a ∧ H a = some (.ins C dx fs) ∧ fs.lookup m = none ∧ A
def stR (K : PySem.W.Frag) (f : Str) (y x : V) (H : Hp) (N : Hp → Prop) : Prop := ∃ a C dx fs, x = .ref a ∧ H a = some (.ins C dx fs) ∧ Cls K C ∧ NoAttr K C f ∧ fs.length < 1000 ∧ N (upd H a (.ins C dx (putF f y fs)))
section
variable {K : PySem.W.Frag} {σ : L2.St} {H : Hp} {Q : VK} {x y v : V} {i j : Int} {n r : Nat} {ta tb tc te to tv : TE} {t u : TT} {tA tr : TA} {A B : Prop} {p a C dx : Addr} {b : Bool} {fs : List (Str × V)} {f m : Str} {xs vs : List V}
  {N : L2.St → Hp → Prop} {R : VK} {Bk Ct : L2.St → Hp → Prop} {s1 s2 : TS} {gt : TG} {QB : Bool → Hp → Prop} {QA : List V → Hp → Prop} {sp : Sp} {E : XK}
theorem g_var {k : Nat} (h : σ[k]? = some (some v)) (q : Q v H) : tVar k σ H Q := ⟨v, h, q⟩
theorem g_c (q : Q v H) : tC v σ H Q := q
theorem g_op {r : R2} (q : ta σ H fun x H1 => tb σ H1 fun y H2 => r x y H2 Q) : tOp r ta tb σ H Q := q
theorem g_un {r : V → Hp → VK → Prop} (q : ta σ H fun x H1 => r x H1 Q) : tUn r ta σ H Q := q
theorem g_I0 {g : Int → Int → V} (q : Q (g i j) H) : rI0 g (.int i) (.int j) H Q := ⟨i, j, rfl, rfl, q⟩
theorem g_I {D : Int → Int → Prop} {g : Int → Int → V} (hc : D i j) (q : Q (g i j) H) : rI D g (.int i) (.int j) H Q := ⟨i, j, rfl, rfl, hc, q⟩
theorem g_U {g : Int → V} (q : Q (g i) H) : rU g (.int i) H Q := ⟨i, rfl, q⟩
theorem g_eqI (q : Q (.bl (decide (i = j))) H) : rEq (.int i) (.int j) H Q := ⟨rfl, by
  have e : decide (V.int i = V.int j) = decide (i = j) := decide_eq_decide.mpr ⟨fun h => by cases h; rfl, fun h => by rw [h]⟩
  rw [e]; exact q⟩
theorem g_neI (q : Q (.bl (!decide (i = j))) H) : rNe (.int i) (.int j) H Q := ⟨rfl, by
  have e : decide (V.int i = V.int j) = decide (i = j) := decide_eq_decide.mpr ⟨fun h => by cases h; rfl, fun h => by rw [h]⟩
  rw [e]; exact q⟩
theorem g_eqS {s z : Str} (q : Q (.bl (decide (s = z))) H) : rEq (.str s) (.str z) H Q := ⟨rfl, by
  have e : decide (V.str s = V.str z) = decide (s = z) := decide_eq_decide.mpr ⟨fun h => by cases h; rfl, fun h => by rw [h]⟩
  rw [e]; exact q⟩
theorem g_neS {s z : Str} (q : Q (.bl (!decide (s = z))) H) : rNe (.str s) (.str z) H Q := ⟨rfl, by
  have e : decide (V.str s = V.str z) = decide (s = z) := decide_eq_decide.mpr ⟨fun h => by cases h; rfl, fun h => by rw [h]⟩
  rw [e]; exact q⟩
theorem g_test (q : te σ H fun x H' => isB x H' QB) : tTest te σ H QB := q
theorem g_B (q : te σ H fun x H' => isB x H' QB) : tB te σ H QB := q
theorem g_isB (q : QB b H) : isB (.bl b) H QB := ⟨b, rfl, q⟩
theorem g_and (q : t σ H fun c H1 => br c (u σ H1 QB) (QB false H1)) : tAnd t u σ H QB := q
theorem g_or (q : t σ H fun c H1 => br c (QB true H1) (u σ H1 QB)) : tOr t u σ H QB := q
theorem g_not (q : t σ H fun c H1 => QB (!c) H1) : tNot t σ H QB := q
theorem g_andV (q : ta σ H fun x H1 => isB x H1 fun c H1 => br c (tb σ H1 Q) (Q (.bl false) H1)) : tAndV ta tb σ H Q := q
theorem g_orV (q : ta σ H fun x H1 => isB x H1 fun c H1 => br c (Q (.bl true) H1) (tb σ H1 Q)) : tOrV ta tb σ H Q := q
theorem g_notV (q : ta σ H fun x H1 => isB x H1 fun c H1 => Q (.bl (!c)) H1) : tNotV ta σ H Q := q
theorem g_ifE (q : t σ H fun c H1 => br c (ta σ H1 Q) (tb σ H1 Q)) : tIf t ta tb σ H Q := q
theorem g_chain {r r' : R2} (q : ta σ H fun x H1 => tb σ H1 fun y H2 => r x y H2 fun z H3 => isB z H3 fun k H3 => br k (tc σ H3 fun w H4 => r' y w H4 Q) (Q (.bl false) H3)) : tChain r r' ta tb tc σ H Q := q
theorem g_nil (q : QA [] H) : tNil σ H QA := q
theorem g_cons (q : ta σ H fun x H1 => tr σ H1 fun xs H2 => QA (x :: xs) H2) : tCons ta tr σ H QA := q
theorem g_tup (q : tA σ H fun xs H1 => mkT xs H1 Q) : tTup tA σ H Q := q
theorem g_lst (q : tA σ H fun xs H1 => mkL xs H1 Q) : tLst tA σ H Q := q
theorem g_mkT (h : xs.length ≤ sizeLine) (q : ∀ p, H p = none → Q (.ref p) (upd H p (.tup xs))) : mkT xs H Q := ⟨h, q⟩
theorem g_mkL (h : xs.length ≤ sizeLine) (q : ∀ p, H p = none → Q (.ref p) (upd H p (.lst xs))) : mkL xs H Q := ⟨h, q⟩
theorem g_call (q : tA σ H fun vs H1 => sp vs H1 Q E) : tCall sp [] E tA σ H Q := by
  show tA σ H fun vs H1 => sp (vs ++ []) H1 Q E
  simp only [List.append_nil]
  exact q
theorem g_fld (q : ta σ H fun x H1 => fldR K f x H1 Q) : tFld K ta f σ H Q := q
theorem g_fldR (h : H a = some (.ins C dx fs)) (c : Cls K C) (na : NoAttr K C f) (hl : fs.lookup f = some v) (q : Q v H) : fldR K f (.ref a) H Q := ⟨a, C, dx, fs, v, rfl, h, c, na, hl, q⟩
theorem g_meth (q : ta σ H fun x H1 => insR C m x H1 (tA σ H1 fun vs H2 => sp (x :: vs) H2 Q E)) : tMeth C m sp [] E ta tA σ H Q := by
  show ta σ H fun x H1 => ∃ a dx fs, x = .ref a ∧ H1 a = some (.ins C dx fs) ∧ fs.lookup m = none ∧ tA σ H1 fun vs H2 => sp (x :: (vs ++ [])) H2 Q E
  simp only [List.append_nil]
  exact q
theorem g_insR (h : H a = some (.ins C dx fs)) (hl : fs.lookup m = none) (q : A) : insR C m (.ref a) H A := ⟨a, dx, fs, rfl, h, hl, q⟩
theorem g_make (q : tA σ H fun vs H1 => ∀ x dx, H1 x = none → H1 dx = none → dx ≠ x → sp (.ref x :: vs) (upd (upd H1 dx (.own x)) x (.ins C dx [])) (fun v H2 => v = .non ∧ Q (.ref x) H2) E) : tMake C sp [] E tA σ H Q := by
  show tA σ H fun vs H1 => ∀ x dx, H1 x = none → H1 dx = none → dx ≠ x → sp (.ref x :: (vs ++ [])) (upd (upd H1 dx (.own x)) x (.ins C dx [])) (fun v H2 => v = .non ∧ Q (.ref x) H2) E
  simp only [List.append_nil]
  exact q
theorem g_cb {r : List V → Hp → VK → Prop} (q : tA σ H fun vs H1 => r vs H1 Q) : tCB r tA σ H Q := q
theorem g_bm {T : String} {r : V → List V → Hp → VK → Prop} (q : to σ H fun x H1 => tyV K T x H1 ∧ tA σ H1 fun xs H2 => r x xs H2 Q) : tBM K T r to tA σ H Q := q
theorem sz (h : Nat.ble xs.length 1000 = true) : xs.length ≤ sizeLine := Nat.le_trans (Nat.le_of_ble_eq_true h) (by decide)
theorem szl (h : Nat.ble xs.length 1000 = true) : xs.length < sizeLine := Nat.lt_of_le_of_lt (Nat.le_of_ble_eq_true h) (by decide)
/-! statements -/
theorem g_seq (q : s1 ⟨s2 ⟨N, R, Bk, Ct⟩, R, Bk, Ct⟩ σ H) : tSeq s1 s2 ⟨N, R, Bk, Ct⟩ σ H := q
theorem g_asg (q : te σ H fun x H1 => gt x σ H1 N) : tAsg te gt ⟨N, R, Bk, Ct⟩ σ H := q
theorem g_name {k : Nat} (q : N (σ.set k (some v)) H) : gName k v σ H N := q
theorem g_drop (q : te σ H fun _ H1 => N σ H1) : tDrop te ⟨N, R, Bk, Ct⟩ σ H := q
theorem g_ret (q : te σ H R) : tRet te ⟨N, R, Bk, Ct⟩ σ H := q
theorem g_retN (q : R .non H) : tRetN ⟨N, R, Bk, Ct⟩ σ H := q
theorem g_next (q : N σ H) : tNext ⟨N, R, Bk, Ct⟩ σ H := q
theorem g_brk (q : Bk σ H) : tBreak ⟨N, R, Bk, Ct⟩ σ H := q
theorem g_cnt (q : Ct σ H) : tCont ⟨N, R, Bk, Ct⟩ σ H := q
theorem g_ifs (q : t σ H fun b H1 => br b (s1 ⟨N, R, Bk, Ct⟩ σ H1) (s2 ⟨N, R, Bk, Ct⟩ σ H1)) : tIfS t s1 s2 ⟨N, R, Bk, Ct⟩ σ H := q
theorem g_par {k l : Nat} (q : tA σ H fun vs H1 => ∃ v w, vs = [v, w] ∧ N ((σ.set k (some v)).set l (some w)) H1) : tPar k l tA ⟨N, R, Bk, Ct⟩ σ H := q
theorem g_par2 {k l : Nat} {w : V} (q : N ((σ.set k (some v)).set l (some w)) H) : ∃ v' w', [v, w] = [v', w'] ∧ N ((σ.set k (some v')).set l (some w')) H := ⟨v, w, rfl, q⟩
theorem g_fldS (q : tv σ H fun y H1 => ta σ H1 fun x H2 => stR K f y x H2 (N σ)) : sFld K ta tv f ⟨N, R, Bk, Ct⟩ σ H := q
theorem g_stR {M : Hp → Prop} (h : H a = some (.ins C dx fs)) (c : Cls K C) (na : NoAttr K C f) (hl : fs.length < 1000) (q : M (upd H a (.ins C dx (putF f y fs)))) : stR K f y (.ref a) H M := ⟨a, C, dx, fs, rfl, h, c, na, hl, q⟩
/-! ways -/
theorem br_t (q : A) : br true A B := q
theorem br_f (q : B) : br false A B := (by show (if false = true then A else B); rw [if_neg Bool.false_ne_true]; exact q)
theorem br_d {c : Prop} [Decidable c] (h1 : c → A) (h2 : ¬ c → B) : br (decide c) A B := by
  unfold br
  by_cases h : c
  · rw [if_pos (decide_eq_true h)]; exact h1 h
  · rw [if_neg (by rw [decide_eq_false h]; exact Bool.false_ne_true)]; exact h2 h
theorem br_nd {c : Prop} [Decidable c] (h1 : ¬ c → A) (h2 : c → B) : br (!decide c) A B := by
  unfold br
  by_cases h : c
  · rw [if_neg (by rw [decide_eq_true h]; exact Bool.false_ne_true)]; exact h2 h
  · rw [if_pos (by rw [decide_eq_false h]; rfl)]; exact h1 h
theorem br_b {c : Bool} (h1 : c = true → A) (h2 : c = false → B) : br c A B := by
  cases c with
  | true => exact h1 rfl
  | false => exact br_f (h2 rfl)
theorem br_nb {c : Bool} (h1 : c = false → A) (h2 : c = true → B) : br (!c) A B := by
  cases c with
  | true => exact br_f (h2 rfl)
  | false => exact h1 rfl
theorem br_T {c : Prop} [Decidable c] (h : c) (q : A) : br (decide c) A B := br_d (fun _ => q) fun z => absurd h z
theorem br_F {c : Prop} [Decidable c] (h : ¬ c) (q : B) : br (decide c) A B := br_d (fun z => absurd z h) fun _ => q
theorem br_NT {c : Prop} [Decidable c] (h : c) (q : B) : br (!decide c) A B := br_nd (fun z => absurd h z) fun _ => q
theorem br_NF {c : Prop} [Decidable c] (h : ¬ c) (q : A) : br (!decide c) A B := br_nd (fun _ => q) fun z => absurd z h
/-! items -/
theorem g_ixT (h : SqT K H p xs) (ha : atI xs i = some v) (q : Q v H) : rIxT K (.ref p) (.int i) H Q := ⟨p, xs, i, v, rfl, rfl, h, ha, q⟩
theorem g_ixL (h : SqL K H p xs) (ha : atI xs i = some v) (q : Q v H) : rIxL K (.ref p) (.int i) H Q := ⟨p, xs, i, v, rfl, rfl, h, ha, q⟩
end
/-! #### builtins by names of their readings -/
def rInt : List V → Hp → VK → Prop := fun xs H Q => (∃ i, xs = [.int i] ∧ Q (.int i) H) ∨ ∃ k, xs = [.bl k] ∧ Q (.int (if k then 1 else 0)) H
def rAbs : List V → Hp → VK → Prop := fun xs H Q => ∃ i, xs = [.int i] ∧ Q (.int (if i < 0 then -i else i)) H
def rMax2 : List V → Hp → VK → Prop := fun xs H Q => ∃ i j, xs = [.int i, .int j] ∧ Q (.int (if j > i then j else i)) H
def rMin2 : List V → Hp → VK → Prop := fun xs H Q => ∃ i j, xs = [.int i, .int j] ∧ Q (.int (if j < i then j else i)) H
def rLen (K : PySem.W.Frag) : List V → Hp → VK → Prop := fun xs H Q => ∃ p ys, xs = [.ref p] ∧ (SqL K H p ys ∨ SqT K H p ys) ∧ Q (.int ys.length) H
def rTup (K : PySem.W.Frag) : List V → Hp → VK → Prop := fun xs H Q => ∃ p ys, xs = [.ref p] ∧ ((SqL K H p ys ∧ ∀ l, H l = none → Q (.ref l) (upd H l (.tup ys))) ∨ (SqT K H p ys ∧ Q (.ref p) H))
def rLst (K : PySem.W.Frag) : List V → Hp → VK → Prop := fun xs H Q => ∃ p ys, xs = [.ref p] ∧ (SqL K H p ys ∨ SqT K H p ys) ∧ ∀ l, H l = none → Q (.ref l) (upd H l (.lst ys))
section
variable {X : Cx}
theorem c_int : CallR X (.type "int") rInt := call_int1
theorem c_abs : CallR X (.builtin "abs") rAbs := call_abs
theorem c_max2 (hc : X.calm = true) : CallR X (.builtin "max") rMax2 := call_max2 hc
theorem c_min2 (hc : X.calm = true) : CallR X (.builtin "min") rMin2 := call_min2 hc
theorem c_len : CallR X (.builtin "len") (rLen X.K) := call_len_seq
theorem c_tup : CallR X (.type "tuple") (rTup X.K) := call_tuple_of
theorem c_lst : CallR X (.type "list") (rLst X.K) := call_list_of
end
section
variable {K : PySem.W.Frag} {H : Hp} {Q : VK} {i j : Int} {p : Addr} {xs : List V}
theorem g_int (q : Q (.int i) H) : rInt [.int i] H Q := .inl ⟨i, rfl, q⟩
theorem g_abs (q : Q (.int (if i < 0 then -i else i)) H) : rAbs [.int i] H Q := ⟨i, rfl, q⟩
theorem g_max2 (q : Q (.int (if j > i then j else i)) H) : rMax2 [.int i, .int j] H Q := ⟨i, j, rfl, q⟩
theorem g_min2 (q : Q (.int (if j < i then j else i)) H) : rMin2 [.int i, .int j] H Q := ⟨i, j, rfl, q⟩
theorem g_lenL (h : SqL K H p xs) (q : Q (.int xs.length) H) : rLen K [.ref p] H Q := ⟨p, xs, rfl, .inl h, q⟩
theorem g_lenT (h : SqT K H p xs) (q : Q (.int xs.length) H) : rLen K [.ref p] H Q := ⟨p, xs, rfl, .inr h, q⟩
theorem g_tupL (h : SqL K H p xs) (q : ∀ l, H l = none → Q (.ref l) (upd H l (.tup xs))) : rTup K [.ref p] H Q := ⟨p, xs, rfl, .inl ⟨h, q⟩⟩
theorem g_lstL (h : SqL K H p xs) (q : ∀ l, H l = none → Q (.ref l) (upd H l (.lst xs))) : rLst K [.ref p] H Q := ⟨p, xs, rfl, .inl h, q⟩
theorem g_lstT (h : SqT K H p xs) (q : ∀ l, H l = none → Q (.ref l) (upd H l (.lst xs))) : rLst K [.ref p] H Q := ⟨p, xs, rfl, .inr h, q⟩
end
end SH
namespace SH
open PySem PySem.Spec L2

/-! #### kinds of values -/
inductive Kd where | non | bl | int | str | lst | tup | dct
  deriving DecidableEq
def Kd.nm : Kd → String
  | .non => "NoneType"
  | .bl => "bool"
  | .int => "int"
  | .str => "str"
  | .lst => "list"
  | .tup => "tuple"
  | .dct => "dict"
inductive KdV (K : PySem.W.Frag) (H : Hp) : V → Kd → Prop where
  | non : KdV K H .non .non
  | bl (b : Bool) : KdV K H (.bl b) .bl
  | int (i : Int) : KdV K H (.int i) .int
  | str (z : Str) : KdV K H (.str z) .str
  | lst {a : Addr} {xs : List V} (h : SqL K H a xs) : KdV K H (.ref a) .lst
  | tup {a : Addr} {xs : List V} (h : SqT K H a xs) : KdV K H (.ref a) .tup
  | dct {a : Addr} {kvs : List (Key × V)} (h : H a = some (.dK kvs)) : KdV K H (.ref a) .dct
theorem KdV.ty {K : PySem.W.Frag} {H : Hp} {x : V} {k : Kd} (h : KdV K H x k) : TyX K H x (.type k.nm) := by
  cases h with
  | non => exact .base .non
  | bl b => exact .base (.bl b)
  | int i => exact .base (.int i)
  | str z => exact .base (.str z)
  | lst h =>
    rcases h with (h | ⟨o, h⟩) | ⟨o, its, n, e, c, _⟩
    · exact .base (.lst h)
    · exact .base (.frz h)
    · exact .kList e c
  | tup h =>
    rcases h with (h | ⟨o, h⟩) | ⟨o, its, n, e, c, _⟩
    · exact .base (.tup h)
    · exact .fTuple h
    · exact .kTuple e c
  | dct h => exact .base (.dK h)
def Kd.isa (k : Kd) (T : String) : Bool := (kitB k.nm T).getD false
theorem isa_int (k : Kd) : kitB k.nm "int" = some (k == .int || k == .bl) := by cases k <;> decide +kernel
theorem isa_bool (k : Kd) : kitB k.nm "bool" = some (k == .bl) := by cases k <;> decide +kernel
theorem isa_str (k : Kd) : kitB k.nm "str" = some (k == .str) := by cases k <;> decide +kernel
theorem isa_tuple (k : Kd) : kitB k.nm "tuple" = some (k == .tup) := by cases k <;> decide +kernel
section
variable {K : PySem.W.Frag} {H : Hp} {Q : VK} {x : V} {k : Kd}
theorem g_isi {T : String} {b : Bool} (h : KdV K H x k) (e : kitB k.nm T = some b) (q : Q (.bl b) H) : rIsi K [x, .ty T] H Q := ⟨x, .ty T, _, _, b, rfl, .ty T, h.ty, kit_ty e, q⟩
theorem g_isiInt (h : KdV K H x k) (q : Q (.bl (k == .int || k == .bl)) H) : rIsi K [x, .ty "int"] H Q := g_isi h (isa_int k) q
theorem g_isiBool (h : KdV K H x k) (q : Q (.bl (k == .bl)) H) : rIsi K [x, .ty "bool"] H Q := g_isi h (isa_bool k) q
theorem g_isiStr (h : KdV K H x k) (q : Q (.bl (k == .str)) H) : rIsi K [x, .ty "str"] H Q := g_isi h (isa_str k) q
theorem g_isiTup (h : KdV K H x k) (q : Q (.bl (k == .tup)) H) : rIsi K [x, .ty "tuple"] H Q := g_isi h (isa_tuple k) q
end
/-- what isinstance asks of an own class -/
structure IsOwn (K : PySem.W.Frag) (C : Addr) : Prop where
  ha : PySem.W.findIn K (.ref C) "__class__" = some (some (.builtin "object.__class__"))
  hn : PySem.W.specialIn K (.builtin "object.__class__") "__get__" = some (some (.builtin "getset_descriptor.__get__"))
  ht : PySem.W.takesIn K (.builtin "object.__class__") = some true
  hm : PySem.W.mroIn K C (.type "object") = some true
def isOwnB (K : PySem.W.Frag) (C : Addr) : Bool := decide (PySem.W.findIn K (.ref C) "__class__" = some (some (.builtin "object.__class__"))) && (decide (PySem.W.specialIn K (.builtin "object.__class__") "__get__" = some (some (.builtin "getset_descriptor.__get__"))) && (decide (PySem.W.takesIn K (.builtin "object.__class__") = some true) && decide (PySem.W.mroIn K C (.type "object") = some true)))
theorem isOwnB_ok {K : PySem.W.Frag} {C : Addr} (h : isOwnB K C = true) : IsOwn K C := by
  unfold isOwnB at h
  simp only [Bool.and_eq_true, decide_eq_true_eq] at h
  exact ⟨h.1, h.2.1, h.2.2.1, h.2.2.2⟩
/-! #### constants of the module, built-ins -/
def Ci (mg : Str → Option Value) (x : Str) (i : Int) : Prop := ∃ t, mg x = some (.int i t)
theorem pe_cint {X : Cx} {x : Str} {i : Int} {pos : Pos} (h : Ci X.mg x i) (hg : Gl X x := by rfl) (hd : (x == ("__debug__" : Str)) = false := by decide) : PE X (.Name x pos) (tC (.int i)) := by
  obtain ⟨t, h⟩ := h
  exact pe_glob hg h ⟨t, rfl⟩ hd
structure Blt (mg : Str → Option Value) : Prop where
  b_len : mg "len" = none
  b_range : mg "range" = none
  b_isinstance : mg "isinstance" = none
  b_abs : mg "abs" = none
  b_int : mg "int" = none
  b_bool : mg "bool" = none
  b_str : mg "str" = none
  b_tuple : mg "tuple" = none
  b_dict : mg "dict" = none
  b_list : mg "list" = none
  b_min : mg "min" = none
  b_max : mg "max" = none
  b_any : mg "any" = none
  b_all : mg "all" = none
  b_sum : mg "sum" = none
  b_sorted : mg "sorted" = none
  b_repr : mg "repr" = none
  b_zip : mg "zip" = none
  b_enumerate : mg "enumerate" = none
end SH
namespace SH
open PySem PySem.Spec L2
/-! #### stores, slices, dicts, loops: their steps -/
section
variable {K : PySem.W.Frag} {σ : L2.St} {H : Hp} {Q : VK} {x y v : V} {i j : Int} {ta tb tc te to tv td ty : TE} {tt u : TT} {tA tr : TA} {p a C dx : Addr} {xs ys vs : List V}
  {N : L2.St → Hp → Prop} {R : VK} {Bk Ct : L2.St → Hp → Prop} {s1 s2 : TS} {gt : TG}
theorem g_sub {M : L2.St → Hp → Prop} {t : TSet} (q : to σ H fun o H1 => ta σ H1 fun i H2 => t o i v H2 fun H3 => M σ H3) : gSub to ta t v σ H M := q
theorem g_setL {M : Hp → Prop} {k : Nat} (h : H p = some (.lst xs)) (e : ixN xs.length i = some k) (q : M (upd H p (.lst (xs.set k v)))) : rSetL (.ref p) (.int i) v H M := ⟨p, xs, i, k, rfl, rfl, h, e, q⟩
theorem g_yes {QB : Bool → Hp → Prop} (q : QB true H) : tYes σ H QB := q
/-- slices -/
def sliR (r : V → Option Int → Option Int → Hp → VK → Prop) (x : V) (l u : Option Int) (H : Hp) (Q : VK) : Prop := r x l u H Q
theorem g_sl {r : V → Option Int → Option Int → Hp → VK → Prop} {tl th : TO} (q : te σ H fun x H1 => tl σ H1 fun l H2 => th σ H2 fun u H3 => r x l u H3 Q) : tSl r te tl th σ H Q := q
theorem g_noPart {QO : Option Int → Hp → Prop} (q : QO none H) : tNoPart σ H QO := q
def intO (x : V) (H : Hp) (QO : Option Int → Hp → Prop) : Prop := ∃ i, x = .int i ∧ QO (some i) H
theorem g_part {QO : Option Int → Hp → Prop} (q : te σ H fun x H1 => intO x H1 QO) : tPart te σ H QO := q
theorem g_intO {QO : Option Int → Hp → Prop} (q : QO (some i) H) : intO (.int i) H QO := ⟨i, rfl, q⟩
theorem g_slL {lo hi : Option Int} (h : SqL K H a xs) (q : ∀ p, H p = none → Q (.ref p) (upd H p (.lst (cutV xs lo hi)))) : rSlL K (.ref a) lo hi H Q := ⟨a, xs, rfl, h, q⟩
theorem g_cat {l b : Addr} {zs : List V} (h1 : H l = some (.lst xs)) (h2 : H b = some (.lst zs)) (hz : xs.length + zs.length ≤ sizeLine) (q : ∀ p, H p = none → Q (.ref p) (upd H p (.lst (xs ++ zs)))) : rCat (.ref l) (.ref b) H Q :=
  ⟨l, b, xs, zs, rfl, rfl, h1, h2, hz, q⟩
theorem g_eqD {d e : PyData} (h1 : Dp K H x d) (h2 : Dp K H y e) (s1 : SeqAt.shaped d = true) (s2 : SeqAt.shaped e = true) (q : Q (.bl (PyData.eqv d e)) H) : rEqD K x y H Q := ⟨d, e, h1, h2, s1, s2, q⟩
theorem g_neD {d e : PyData} (h1 : Dp K H x d) (h2 : Dp K H y e) (s1 : SeqAt.shaped d = true) (s2 : SeqAt.shaped e = true) (q : Q (.bl (!PyData.eqv d e)) H) : rNeD K x y H Q := ⟨d, e, h1, h2, s1, s2, q⟩
theorem g_in {neg : Bool} (h : SqL K H p xs ∨ SqT K H p xs) (hx : flatV x = true) (ha : xs.all flatV = true) (q : Q (.bl (if neg then !inV x xs else inV x xs)) H) : rIn K neg x (.ref p) H Q := ⟨p, xs, rfl, h, hx, ha, q⟩
/-- dicts by text keys -/
def dgR (x y : V) (H : Hp) (Q : VK) : Prop := ∃ a v, x = .ref a ∧ DGet H a y (some v) ∧ Q v H
theorem g_dget (q : td σ H fun x H1 => ty σ H1 fun y H2 => dgR x y H2 Q) : tDGet td ty σ H Q := q
theorem g_dgR {kvs : List (Key × V)} {k : Str} (h : H a = some (.dK kvs)) (e : valV kvs (Sum.inr k) = some v) (q : Q v H) : dgR (.ref a) (.str k) H Q := ⟨a, v, rfl, .inl ⟨kvs, Sum.inr k, .inl h, rfl, e.symm⟩, q⟩
def dpR (v x y : V) (H : Hp) (M : Hp → Prop) : Prop := ∃ a H4, x = .ref a ∧ DPut H a y v H4 ∧ M H4
theorem g_dput (q : tv σ H fun v H1 => td σ H1 fun x H2 => ty σ H2 fun y H3 => dpR v x y H3 (N σ)) : sDPut td ty tv ⟨N, R, Bk, Ct⟩ σ H := q
theorem g_dpR {M : Hp → Prop} {kvs : List (Key × V)} {k : Str} (h : H a = some (.dK kvs)) (hl : kvs.length < sizeLine) (q : M (upd H a (.dK (putK kvs (Sum.inr k) v)))) : dpR v (.ref a) (.str k) H M := ⟨a, _, rfl, DPut.k (k := Sum.inr k) h hl, q⟩
theorem g_dnew (q : ∀ p, H p = none → Q (.ref p) (upd H p (.dK []))) : tDNewK σ H Q := q
/-- loops over a range, a list, a tuple -/
def forJ (g : TG) (tb : TS) (D : Ends) (σ : L2.St) (J : It) (H1 : Hp) : Prop := ∃ W : Nat → Nat → L2.St → Hp → Prop, (∃ m, W 0 m σ H1) ∧ ∀ i m σ H, W i m σ H →
  (J.stop i H ∧ D.nx σ H) ∨ (J.go i H ∧ ∃ N : L2.St → Hp → Prop, (∀ σ' H', N σ' H' → ∃ m', m' < m ∧ W (i + 1) m' σ' H') ∧ ∀ x H', J.yld i H x H' → g x σ H' fun σ2 H2 => tb { D with nx := N, ct := N, bk := D.nx } σ2 H2)
def forR (vs : List V) (H : Hp) (g : TG) (tb : TS) (D : Ends) (σ : L2.St) : Prop := ∃ j : Int, vs = [.int j] ∧ -(2 ^ 62) ≤ j ∧ j < 2 ^ 62 ∧ forJ g tb D σ (Itr 0 j.toNat) H
def forL (K : PySem.W.Frag) (x : V) (H : Hp) (g : TG) (tb : TS) (D : Ends) (σ : L2.St) : Prop := ∃ a, x = .ref a ∧ (∃ xs, SqL K H a xs) ∧ forJ g tb D σ (Itl K a) H
def forT (K : PySem.W.Frag) (x : V) (H : Hp) (g : TG) (tb : TS) (D : Ends) (σ : L2.St) : Prop := ∃ a, x = .ref a ∧ (∃ xs, SqT K H a xs) ∧ forJ g tb D σ (Itt K a) H
theorem g_forR (q : tA σ H fun vs H1 => forR vs H1 gt s1 ⟨N, R, Bk, Ct⟩ σ) : tFor (iRng1 tA) gt s1 ⟨N, R, Bk, Ct⟩ σ H := q
theorem g_forL (q : te σ H fun x H1 => forL K x H1 gt s1 ⟨N, R, Bk, Ct⟩ σ) : tFor (iList K te) gt s1 ⟨N, R, Bk, Ct⟩ σ H := q
theorem g_forT (q : te σ H fun x H1 => forT K x H1 gt s1 ⟨N, R, Bk, Ct⟩ σ) : tFor (iTup K te) gt s1 ⟨N, R, Bk, Ct⟩ σ H := q
theorem forR_mk {n : Int} {k : Nat} (Pv : Nat → L2.St → Hp → Prop) (b : -(2 ^ 62) ≤ n ∧ n < 2 ^ 62) (h0 : Pv 0 σ H) (hs : ∀ i σ H, i < n.toNat → Pv i σ H → s1 ⟨Pv (i + 1), R, N, Pv (i + 1)⟩ (σ.set k (some (.int (i : Int)))) H) (hd : ∀ σ H, Pv n.toNat σ H → N σ H) :
    forR [.int n] H (gName k) s1 ⟨N, R, Bk, Ct⟩ σ :=
  ⟨n, rfl, b.1, b.2, for_range (lo := 0) (n := n.toNat) (g := gName k) (D := ⟨N, R, Bk, Ct⟩) Pv h0 (fun i σ H hi p => by
    have e : (0 : Int) + (i : Int) = (i : Int) := Int.zero_add _
    show s1 ⟨Pv (i + 1), R, N, Pv (i + 1)⟩ (σ.set k (some (.int ((0 : Int) + (i : Int))))) H
    rw [e]
    exact hs i σ H hi p) hd⟩
theorem forL_mk (Pv : Nat → L2.St → Hp → Prop) (hx : SqL K H a xs) (h0 : Pv 0 σ H) (hl : ∀ i σ H, i ≤ xs.length → Pv i σ H → SqL K H a xs)
    (hs : ∀ i x σ H, xs[i]? = some x → Pv i σ H → gt x σ H fun σ2 H2 => s1 ⟨Pv (i + 1), R, N, Pv (i + 1)⟩ σ2 H2) (hd : ∀ σ H, Pv xs.length σ H → N σ H) : forL K (.ref a) H gt s1 ⟨N, R, Bk, Ct⟩ σ :=
  ⟨a, rfl, ⟨xs, hx⟩, for_list (K := K) (a := a) (xs := xs) (D := ⟨N, R, Bk, Ct⟩) Pv h0 hl hs hd⟩
theorem forT_mk (Pv : Nat → L2.St → Hp → Prop) (hx : SqT K H a xs) (h0 : Pv 0 σ H) (hl : ∀ i σ H, i ≤ xs.length → Pv i σ H → SqT K H a xs)
    (hs : ∀ i x σ H, xs[i]? = some x → Pv i σ H → gt x σ H fun σ2 H2 => s1 ⟨Pv (i + 1), R, N, Pv (i + 1)⟩ σ2 H2) (hd : ∀ σ H, Pv xs.length σ H → N σ H) : forT K (.ref a) H gt s1 ⟨N, R, Bk, Ct⟩ σ :=
  ⟨a, rfl, ⟨xs, hx⟩, for_tup (K := K) (a := a) (xs := xs) (D := ⟨N, R, Bk, Ct⟩) Pv h0 hl hs hd⟩
theorem g_gtup {M : L2.St → Hp → Prop} {t : TGs} {n : Nat} (h : SqT K H a xs) (hl : xs.length = n) (q : t xs σ H M) : gTup K n t (.ref a) σ H M := ⟨a, xs, rfl, h, hl, q⟩
theorem g_gcons {M : L2.St → Hp → Prop} {t : TG} {u : TGs} (q : t v σ H fun σ' H' => u xs σ' H' M) : gCons t u (v :: xs) σ H M := ⟨v, xs, rfl, q⟩
theorem g_gnil {M : L2.St → Hp → Prop} (q : M σ H) : gNil [] σ H M := ⟨rfl, q⟩
/-- a while, its measure -/
def whN (W : Nat → L2.St → Hp → Prop) (m : Nat) (tb : TS) (D : Ends) (σ : L2.St) (H : Hp) : Prop := ∃ N : L2.St → Hp → Prop, (∀ σ' H', N σ' H' → ∃ m', m' < m ∧ W m' σ' H') ∧ tb { D with nx := N, ct := N, bk := D.nx } σ H
theorem g_while (W : Nat → L2.St → Hp → Prop) (m : Nat) (w0 : W m σ H) (hs : ∀ m σ H, W m σ H → tt σ H fun b H1 => br b (whN W m s1 ⟨N, R, Bk, Ct⟩ σ H1) (N σ H1)) : tWhile tt s1 ⟨N, R, Bk, Ct⟩ σ H := ⟨W, ⟨m, w0⟩, hs⟩
theorem g_whN {W : Nat → L2.St → Hp → Prop} {m : Nat} (q : s1 ⟨fun σ' H' => ∃ m', m' < m ∧ W m' σ' H', R, N, fun σ' H' => ∃ m', m' < m ∧ W m' σ' H'⟩ σ H) : whN W m s1 ⟨N, R, Bk, Ct⟩ σ H := ⟨_, fun _ _ z => z, q⟩
/-! comprehensions -/
/-- one item is put behind the made list -/
def lcApp (D : Addr) (y : V) (H : Hp) (M : Hp → Prop) : Prop := ∃ acc, H D = some (.lst acc) ∧ acc.length < sizeLine ∧ M (upd H D (.lst (acc ++ [y])))
theorem g_app {D : Addr} {acc : List V} {M : Hp → Prop} (h : H D = some (.lst acc)) (hl : acc.length < sizeLine) (q : M (upd H D (.lst (acc ++ [y])))) : lcApp D y H M := ⟨acc, h, hl, q⟩
def lcJ (g : TG) (tt : TT) (te : TE) (vs : List Nat) (σ : L2.St) (Q : VK) (J : It) (H1 : Hp) : Prop := ∀ D, H1 D = none → ∃ W : Nat → Nat → Hp → Prop, (∃ m, W 0 m (upd H1 D (.lst []))) ∧ ∀ i m H, W i m H →
  (J.stop i H ∧ Q (.ref D) H) ∨ (J.go i H ∧ ∃ Nx : Hp → Prop, (∀ H', Nx H' → ∃ m', m' < m ∧ W (i + 1) m' H') ∧ ∀ x H', J.yld i H x H' → g x (wipe σ vs) H' fun σ2 H2 => wipe σ2 vs = wipe σ vs ∧ tt σ2 H2 fun b H3 =>
    if b = true then te σ2 H3 fun y H4 => ∃ acc, H4 D = some (.lst acc) ∧ acc.length < sizeLine ∧ Nx (upd H4 D (.lst (acc ++ [y]))) else Nx H3)
def lcR (vs : List V) (H : Hp) (g : TG) (tt : TT) (te : TE) (ws : List Nat) (σ : L2.St) (Q : VK) : Prop := ∃ j : Int, vs = [.int j] ∧ -(2 ^ 62) ≤ j ∧ j < 2 ^ 62 ∧ lcJ g tt te ws σ Q (Itr 0 j.toNat) H
def lcL (K : PySem.W.Frag) (x : V) (H : Hp) (g : TG) (tt : TT) (te : TE) (ws : List Nat) (σ : L2.St) (Q : VK) : Prop := ∃ a, x = .ref a ∧ (∃ xs, SqL K H a xs) ∧ lcJ g tt te ws σ Q (Itl K a) H
def lcT (K : PySem.W.Frag) (x : V) (H : Hp) (g : TG) (tt : TT) (te : TE) (ws : List Nat) (σ : L2.St) (Q : VK) : Prop := ∃ a, x = .ref a ∧ (∃ xs, SqT K H a xs) ∧ lcJ g tt te ws σ Q (Itt K a) H
theorem g_lcR {ws : List Nat} (q : tA σ H fun vs H1 => lcR vs H1 gt tt te ws σ Q) : tLc (iRng1 tA) gt tt te ws σ H Q := q
theorem g_lcL {ws : List Nat} (q : to σ H fun x H1 => lcL K x H1 gt tt te ws σ Q) : tLc (iList K to) gt tt te ws σ H Q := q
theorem g_lcT {ws : List Nat} (q : to σ H fun x H1 => lcT K x H1 gt tt te ws σ Q) : tLc (iTup K to) gt tt te ws σ H Q := q
theorem lcR_mk {n : Int} {k : Nat} {ws : List Nat} (b : -(2 ^ 62) ≤ n ∧ n < 2 ^ 62) (Pv : Addr → Nat → Hp → Prop) (h0 : ∀ D, H D = none → Pv D 0 (upd H D (.lst [])))
    (hs : ∀ D i H1, H D = none → i < n.toNat → Pv D i H1 → wipe ((wipe σ ws).set k (some (.int (i : Int)))) ws = wipe σ ws ∧ tt ((wipe σ ws).set k (some (.int (i : Int)))) H1 fun b H3 => br b (te ((wipe σ ws).set k (some (.int (i : Int)))) H3 fun y H4 => lcApp D y H4 (Pv D (i + 1))) (Pv D (i + 1) H3))
    (hd : ∀ D H1, H D = none → Pv D n.toNat H1 → Q (.ref D) H1) : lcR [.int n] H (gName k) tt te ws σ Q :=
  ⟨n, rfl, b.1, b.2, fun D hD => lc_range (lo := 0) (n := n.toNat) (g := gName k) (Pv D) (h0 D hD) (fun i H1 hi p => by
    have e : (0 : Int) + (i : Int) = (i : Int) := Int.zero_add _
    show wipe ((wipe σ ws).set k (some (.int ((0 : Int) + (i : Int))))) ws = wipe σ ws ∧ tt ((wipe σ ws).set k (some (.int ((0 : Int) + (i : Int))))) H1 _
    rw [e]
    exact hs D i H1 hD hi p) fun H1 p => hd D H1 hD p⟩
theorem lcL_mk {ws : List Nat} (Pv : Addr → Nat → Hp → Prop) (hx : SqL K H a xs) (h0 : ∀ D, H D = none → Pv D 0 (upd H D (.lst []))) (hl : ∀ D i H1, H D = none → i ≤ xs.length → Pv D i H1 → SqL K H1 a xs)
    (hs : ∀ D i x H1, H D = none → xs[i]? = some x → Pv D i H1 → gt x (wipe σ ws) H1 fun σ2 H2 => wipe σ2 ws = wipe σ ws ∧ tt σ2 H2 fun b H3 => br b (te σ2 H3 fun y H4 => lcApp D y H4 (Pv D (i + 1))) (Pv D (i + 1) H3))
    (hd : ∀ D H1, H D = none → Pv D xs.length H1 → Q (.ref D) H1) : lcL K (.ref a) H gt tt te ws σ Q :=
  ⟨a, rfl, ⟨xs, hx⟩, fun D hD => lc_list (K := K) (a := a) (xs := xs) (Pv D) (h0 D hD) (fun i H1 hi p => hl D i H1 hD hi p) (fun i x H1 hi p => hs D i x H1 hD hi p) fun H1 p => hd D H1 hD p⟩
theorem lcT_mk {ws : List Nat} (Pv : Addr → Nat → Hp → Prop) (hx : SqT K H a xs) (h0 : ∀ D, H D = none → Pv D 0 (upd H D (.lst []))) (hl : ∀ D i H1, H D = none → i ≤ xs.length → Pv D i H1 → SqT K H1 a xs)
    (hs : ∀ D i x H1, H D = none → xs[i]? = some x → Pv D i H1 → gt x (wipe σ ws) H1 fun σ2 H2 => wipe σ2 ws = wipe σ ws ∧ tt σ2 H2 fun b H3 => br b (te σ2 H3 fun y H4 => lcApp D y H4 (Pv D (i + 1))) (Pv D (i + 1) H3))
    (hd : ∀ D H1, H D = none → Pv D xs.length H1 → Q (.ref D) H1) : lcT K (.ref a) H gt tt te ws σ Q :=
  ⟨a, rfl, ⟨xs, hx⟩, fun D hD => lc_tup (K := K) (a := a) (xs := xs) (Pv D) (h0 D hD) (fun i H1 hi p => hl D i H1 hD hi p) (fun i x H1 hi p => hs D i x H1 hD hi p) fun H1 p => hd D H1 hD p⟩
/-- a comprehension that changes nothing: the list of f x, where test x -/
theorem lcL_pure {ws : List Nat} {j : Nat} (f : V → V) (c : V → Bool) (hx : SqL K H a xs) (hz : xs.length < sizeLine) (hw : ∀ x, wipe ((wipe σ ws).set j (some x)) ws = wipe σ ws)
    (ht : ∀ x H1, x ∈ xs → Off [] H H1 → ∀ M : Bool → Hp → Prop, (∀ H2, Off [] H1 H2 → M (c x) H2) → tt ((wipe σ ws).set j (some x)) H1 M)
    (he : ∀ x H1, x ∈ xs → c x = true → Off [] H H1 → ∀ M : V → Hp → Prop, (∀ H2, Off [] H1 H2 → M (f x) H2) → te ((wipe σ ws).set j (some x)) H1 M)
    (q : ∀ D H1, H D = none → Off [] H H1 → H1 D = some (.lst ((xs.filter c).map f)) → Q (.ref D) H1) : lcL K (.ref a) H (gName j) tt te ws σ Q := by
  refine lcL_mk (fun D i H1 => Off [] H H1 ∧ H1 D = some (.lst (((xs.take i).filter c).map f))) hx (fun D hD => ⟨.new hD, by simp [upd_same]⟩) (fun D i H1 hD hi p => p.1.seqL nin_nil hx) (fun D i x H1 hD hi p => ?_) (fun D H1 hD p => q D H1 hD p.1 (by rw [p.2, List.take_length]))
  obtain ⟨p1, p2⟩ := p
  have hxm : x ∈ xs := List.mem_of_getElem? hi
  have et : xs.take (i + 1) = xs.take i ++ [x] := by rw [List.take_add_one, hi]; rfl
  refine ⟨hw x, ht x H1 hxm p1 _ fun H2 o2 => ?_⟩
  cases hc : c x with
  | true =>
    refine br_t (he x H2 hxm hc (p1.trans o2) _ fun H3 o3 => ?_)
    have hD3 : H3 D = some (.lst (((xs.take i).filter c).map f)) := o3.at nin_nil (o2.at nin_nil p2)
    have hl : (((xs.take i).filter c).map f).length < sizeLine := by
      rw [List.length_map]
      refine Nat.lt_of_le_of_lt (Nat.le_trans (List.length_filter_le ..) ?_) hz
      rw [List.length_take]
      omega
    refine g_app hD3 hl ⟨?_, ?_⟩
    · have o := (p1.trans o2).trans o3
      refine ⟨fun b u n e => ?_, fun b u e => ?_, fun b u v e => ?_, fun b u e => ?_⟩
      · rw [upd_ne (ne_of_none e hD)]; exact o.keep b u n e
      · rw [upd_ne (ne_of_none e hD)]; exact o.tups b u e
      · rw [upd_ne (ne_of_none e hD)]; exact o.frzs b u v e
      · rw [upd_ne (ne_of_none e hD)]; exact o.live b u e
    · rw [upd_same, et, List.filter_append, List.map_append]
      simp [hc]
  | false =>
    refine br_f ⟨p1.trans o2, ?_⟩
    rw [o2.at nin_nil p2, et, List.filter_append, List.map_append]
    simp [hc]
theorem lcT_pure {ws : List Nat} {j : Nat} (f : V → V) (c : V → Bool) (hx : SqT K H a xs) (hz : xs.length < sizeLine) (hw : ∀ x, wipe ((wipe σ ws).set j (some x)) ws = wipe σ ws)
    (ht : ∀ x H1, x ∈ xs → Off [] H H1 → ∀ M : Bool → Hp → Prop, (∀ H2, Off [] H1 H2 → M (c x) H2) → tt ((wipe σ ws).set j (some x)) H1 M)
    (he : ∀ x H1, x ∈ xs → c x = true → Off [] H H1 → ∀ M : V → Hp → Prop, (∀ H2, Off [] H1 H2 → M (f x) H2) → te ((wipe σ ws).set j (some x)) H1 M)
    (q : ∀ D H1, H D = none → Off [] H H1 → H1 D = some (.lst ((xs.filter c).map f)) → Q (.ref D) H1) : lcT K (.ref a) H (gName j) tt te ws σ Q := by
  refine lcT_mk (fun D i H1 => Off [] H H1 ∧ H1 D = some (.lst (((xs.take i).filter c).map f))) hx (fun D hD => ⟨.new hD, by simp [upd_same]⟩) (fun D i H1 hD hi p => p.1.seqT hx) (fun D i x H1 hD hi p => ?_) (fun D H1 hD p => q D H1 hD p.1 (by rw [p.2, List.take_length]))
  obtain ⟨p1, p2⟩ := p
  have hxm : x ∈ xs := List.mem_of_getElem? hi
  have et : xs.take (i + 1) = xs.take i ++ [x] := by rw [List.take_add_one, hi]; rfl
  refine ⟨hw x, ht x H1 hxm p1 _ fun H2 o2 => ?_⟩
  cases hc : c x with
  | true =>
    refine br_t (he x H2 hxm hc (p1.trans o2) _ fun H3 o3 => ?_)
    have hD3 : H3 D = some (.lst (((xs.take i).filter c).map f)) := o3.at nin_nil (o2.at nin_nil p2)
    have hl : (((xs.take i).filter c).map f).length < sizeLine := by
      rw [List.length_map]
      refine Nat.lt_of_le_of_lt (Nat.le_trans (List.length_filter_le ..) ?_) hz
      rw [List.length_take]
      omega
    refine g_app hD3 hl ⟨?_, ?_⟩
    · have o := (p1.trans o2).trans o3
      refine ⟨fun b u n e => ?_, fun b u e => ?_, fun b u v e => ?_, fun b u e => ?_⟩
      · rw [upd_ne (ne_of_none e hD)]; exact o.keep b u n e
      · rw [upd_ne (ne_of_none e hD)]; exact o.tups b u e
      · rw [upd_ne (ne_of_none e hD)]; exact o.frzs b u v e
      · rw [upd_ne (ne_of_none e hD)]; exact o.live b u e
    · rw [upd_same, et, List.filter_append, List.map_append]
      simp [hc]
  | false =>
    refine br_f ⟨p1.trans o2, ?_⟩
    rw [o2.at nin_nil p2, et, List.filter_append, List.map_append]
    simp [hc]
end
end SH
namespace SH
open PySem PySem.Spec L2
/-! #### a statement, then the rest with a word between -/
def tCut (t u : TS) : TS := fun D σ H => ∃ Mid : L2.St → Hp → Prop, t { D with nx := Mid } σ H ∧ ∀ σ' H', Mid σ' H' → u D σ' H'
theorem pss_cut {X : Cx} {st : Stmt} {rest : List Stmt} {t u : TS} (h1 : PS X st t) (h2 : PSs X rest u) : PSs X (st :: rest) (tCut t u) := by
  refine ⟨fun pins s σ H D I h => ?_⟩
  obtain ⟨Mid, hm, hu⟩ := h
  refine wpAny_execs_cons (thn (h1.run pins s σ H { D with nx := Mid } I hm) fun f s1 q => ?_)
  cases f with
  | next =>
    obtain ⟨σ', H', I', q⟩ := q
    exact h2.run pins s1 σ' H' D I' (hu σ' H' q)
  | ret v => exact q
  | brk => exact q
  | cont => exact q
theorem g_cut {t u : TS} {N R Bk Ct} {σ : L2.St} {H : Hp} (Mid : L2.St → Hp → Prop) (h : t ⟨Mid, R, Bk, Ct⟩ σ H) (k : ∀ σ' H', Mid σ' H' → u ⟨N, R, Bk, Ct⟩ σ' H') : tCut t u ⟨N, R, Bk, Ct⟩ σ H := ⟨Mid, h, k⟩
theorem atI_nat' {α : Type} {xs : List α} {i : Int} (h0 : 0 ≤ i) (h1 : i < xs.length) : ∃ v, atI xs i = some v ∧ v ∈ xs ∧ xs[i.toNat]? = some v := by
  unfold atI ixN
  rw [if_pos h0, if_pos h1]
  have h : i.toNat < xs.length := by omega
  exact ⟨xs[i.toNat], by simp [h], List.getElem_mem h, by simp [h]⟩
theorem atI_refs {bs : List Addr} {b : Nat} {a : Addr} (h : bs[b]? = some a) : atI (bs.map V.ref) (b : Int) = some (.ref a) := by
  have hl : b < bs.length := (List.getElem?_eq_some_iff.mp h).1
  unfold atI ixN
  rw [if_pos (by omega), if_pos (by rw [List.length_map]; omega)]
  simp [h]
theorem g_dpR' {M : Hp → Prop} {kvs kvs' : List (Key × V)} {k : Str} {a : Addr} {v : V} {H : Hp} (h : H a = some (.dK kvs)) (e : putK kvs (Sum.inr k) v = kvs') (hl : kvs.length < sizeLine) (q : M (upd H a (.dK kvs'))) : dpR v (.ref a) (.str k) H M := g_dpR h hl (by rw [e]; exact q)
theorem cutV_len (xs : List V) (lo hi : Option Int) : (cutV xs lo hi).length ≤ xs.length := by
  unfold cutV
  rw [List.length_take, List.length_drop]
  omega
theorem mem_cutV {xs : List V} {lo hi : Option Int} {v : V} (h : v ∈ cutV xs lo hi) : v ∈ xs := List.mem_of_mem_drop (List.mem_of_mem_take h)
theorem Off.mut {S : List Addr} {H H1 : Hp} {p : Addr} {o : HO} (x : Off S H H1) (h : H p = none) : Off S H (upd H1 p o) := by
  refine ⟨fun b u n e => ?_, fun b u e => ?_, fun b u v e => ?_, fun b u e => ?_⟩
  · rw [upd_ne (ne_of_none e h)]; exact x.keep b u n e
  · rw [upd_ne (ne_of_none e h)]; exact x.tups b u e
  · rw [upd_ne (ne_of_none e h)]; exact x.frzs b u v e
  · rw [upd_ne (ne_of_none e h)]; exact x.live b u e
theorem Off.trans' {S S' : List Addr} {H H1 H2 : Hp} (x : Off S H H1) (y : Off S' H1 H2) (h : ∀ a ∈ S', a ∈ S) : Off S H H2 := x.trans (y.mono h)
theorem Off.put2 {S : List Addr} {H H1 : Hp} {p : Addr} {o u : HO} (x : Off S H H1) (hm : p ∈ S) (h : H1 p = some u) (hu : Mut (some u)) : Off S H (upd H1 p o) := x.trans (.put hm h hu)
theorem seqT_new {K : PySem.W.Frag} {H : Hp} {a p : Addr} {xs : List V} {o : HO} (h : SqT K H a xs) (hp : H p = none) : SqT K (upd H p o) a xs := (Off.new (S := []) hp).seqT h
theorem seqL_new {K : PySem.W.Frag} {H : Hp} {a p : Addr} {xs : List V} {o : HO} (h : SqL K H a xs) (hp : H p = none) : SqL K (upd H p o) a xs := (Off.new (S := []) hp).seqL nin_nil h
theorem Off.new2 {S : List Addr} {H H1 : Hp} {p : Addr} {o : HO} (x : Off S H H1) (h : H1 p = none) : Off S H (upd H1 p o) := x.trans (.new h)
end SH
end

section
namespace SH
open PySem PySem.Spec PyProof.Rows L2
/-! #### max, min, sum of a tuple of ints -/
section
variable {prog : Program} {w : World} {A : Around} {E : Value → Shared → Prop} {s : Shared} {l : Addr} {xs : Array (Int × Tok)}
theorem iter_intTup {Q : Value → Shared → Prop} (hl : s.heap.IsTuple l (intItems xs))
    (h : ∀ s₂ : Shared, s₂ = { s with heap := s.heap.push { cls := .type "tuple_iterator", data := .fields #[.ref l, .int 0 0] } } →
      (s₂.heap.IsTupleIter s.heap.objs.size l 0 ∧ s₂.heap.IsTuple l (intItems xs)) → (∀ b ∈ [s.heap.objs.size, l], b < s₂.heap.objs.size) → l ≠ s.heap.objs.size → Q (.ref s.heap.objs.size) s₂) :
    wpAny (model prog w) A (pyIter (.ref l)) Q E s := by
  have hlt : l < s.heap.objs.size := by obtain ⟨_, e, _⟩ := hl; exact Heap.lt_size e
  refine wpAny_pyIter_tuple hl (h _ rfl ⟨⟨_, Heap.get?_push_size _ rfl, rfl, rfl⟩, hl.push _⟩ (fun b hb => ?_) (Nat.ne_of_lt hlt))
  show b < (s.heap.push _).objs.size
  rw [Heap.size_push]
  rcases List.mem_cons.mp hb with rfl | hb
  · exact Nat.lt_succ_self _
  · rcases List.mem_cons.mp hb with rfl | hb
    · exact Nat.lt_succ_of_lt hlt
    · cases hb
theorem old_keptT {h' : Heap} (hk : ∀ b o, b ∉ [s.heap.objs.size] → (s.heap.push { cls := .type "tuple_iterator", data := .fields #[.ref l, .int 0 0] }).get? b = some o → h'.get? b = some o) :
    ∀ b o, s.heap.get? b = some o → h'.get? b = some o := fun b o e => by
  refine hk b o (fun hm => ?_) (Heap.get?_push_of_some _ e)
  rcases List.mem_cons.mp hm with e1 | hm
  · exact absurd (e1 ▸ Heap.lt_size e) (Nat.lt_irrefl _)
  · cases hm
theorem max_intTup {Q : Value → Shared → Prop} (hh : A.handled = none) (hl : s.heap.IsTuple l (intItems xs)) (hne : 0 < xs.size)
    (h : ∀ v h' tk, (intItems xs)[argBest (fun i j => decide (numAt xs i > numAt xs j)) (xs.size - 1)]? = some v → (∀ b o, s.heap.get? b = some o → h'.get? b = some o) → Q v { s with heap := h', toks := tk }) :
    wpAny (model prog w) A (call (.builtin "max") [.ref l]) Q E s := by
  refine call_max_walk (iter_intTup hl fun s₂ e st hfp hlI => ?_)
  subst e
  refine ⟨_, _, _, _, _, _, _, rfl, Walks.tuple (A := A.in1) hh _ l hlI (intItems xs), st, hfp, by simpa [intItems] using hne, CmpOf.ints_gt (numAt xs) (fun _ _ => intItems_at), fun v h' tk hP hk => ?_⟩
  exact h v h' tk (by simpa [intItems] using hP) (old_keptT hk)
theorem sum_intTup {Q : Value → Shared → Prop} (hh : A.handled = none) (hl : s.heap.IsTuple l (intItems xs)) (hfit : ∀ j, j < xs.size → InLong (numAt xs j) ∧ InLong (preSum (numAt xs) (j + 1)))
    (h : ∀ h' tk t', (∀ b o, s.heap.get? b = some o → h'.get? b = some o) → Q (.int (preSum (numAt xs) xs.size) t') { s with heap := h', toks := tk }) :
    wpAny (model prog w) A (call (.builtin "sum") [.ref l]) Q E s := by
  refine call_sum_walk (iter_intTup hl fun s₂ e st hfp hlI => ?_)
  subst e
  refine ⟨_, _, _, _, _, _, numAt xs, rfl, Walks.tuple (A := A.in1) hh _ l hlI (intItems xs), st, hfp, (fun _ _ => intItems_at), (fun j hj => hfit j (by simpa [intItems] using hj)), fun h' tk t' hk => ?_⟩
  have := h h' tk t' (old_keptT hk)
  simpa [intItems] using this
theorem max_rawT {its : List Value} {ns : List Int} {Q : Value → Shared → Prop} (hh : A.handled = none) (hl : s.heap.IsTuple l its.toArray) (hi : IntsAre its ns) (hne : 0 < ns.length)
    (h : ∀ h' tk M t', (∀ b o, s.heap.get? b = some o → h'.get? b = some o) → M ∈ ns → (∀ a, a ∈ ns → a ≤ M) → Q (.int M t') { s with heap := h', toks := tk }) : wpAny (model prog w) A (call (.builtin "max") [.ref l]) Q E s := by
  obtain ⟨xs, e⟩ := hi.allInts.items
  have hn : numsOf (intItems xs).toList = ns := by rw [← e]; exact hi.numsOf
  rw [nums_intItems] at hn
  subst hn
  rw [e] at hl
  have hsz : 0 < xs.size := by simpa using hne
  refine max_intTup hh hl hsz fun v h' tk hv hk => ?_
  obtain ⟨t, rfl⟩ := intItems_at hv
  obtain ⟨h1, h2⟩ := argBest_gt (numAt xs) (xs.size - 1)
  refine h h' tk _ t hk ?_ fun a ha => ?_
  · rw [numAt_eq]; exact PySem.getD_mem (by rw [List.length_map, Array.length_toList]; omega)
  · obtain ⟨j, hj, rfl⟩ := mem_getD ha
    rw [List.length_map, Array.length_toList] at hj
    rw [← numAt_eq]; exact h2 j (by omega)
end
def rMaxT (K : PySem.W.Frag) : List V → Hp → VK → Prop := fun vs H Q => ∃ (a : Addr) (ns : List Int), vs = [V.ref a] ∧ SqT K H a (ns.map V.int) ∧ 0 < ns.length ∧ ∀ m, m ∈ ns → (∀ y, y ∈ ns → y ≤ m) → Q (.int m) H
theorem cr_maxT {X : Cx} (hc : X.calm = true) : CallR X (.builtin "max") (rMaxT X.K) := by
  intro pins s σ H vs us Q I r h
  obtain ⟨a, ns, rfl, hs, hne, q⟩ := h
  obtain ⟨its, rv, hl, _⟩ := I.tuple hs
  rw [Vals.ref1 r]
  exact max_rawT (I.ok.hd hc) hl rv.ints hne fun h' tk m t' hk h1 h2 => ⟨.int _, H, I.kept hk, ⟨_, rfl⟩, q m h1 h2⟩
end SH
end

section
namespace SH
open PySem PySem.Spec PyProof.Rows L2
/-! #### the rules with the written part named (within a comprehension's block it is the def's own) -/
section
variable {X : Cx} {K : PySem.W.Frag}
theorem ix_listK (h : X.K = K) : IxR X (rIxL K) := by subst h; exact ix_list
theorem ix_tupK (h : X.K = K) : IxR X (rIxT K) := by subst h; exact ix_tup
theorem c_lenK (h : X.K = K) : CallR X (.builtin "len") (rLen K) := by subst h; exact c_len
theorem c_tupK (h : X.K = K) : CallR X (.type "tuple") (rTup K) := by subst h; exact c_tup
theorem c_lstK (h : X.K = K) : CallR X (.type "list") (rLst K) := by subst h; exact c_lst
theorem sl_listK (h : X.K = K) : SlR X (rSlL K) := by subst h; exact sl_list
theorem op_in_seqK (h : X.K = K) : OpR X (compareOp .In) (rIn K false) := by subst h; exact op_in_seq
theorem op_notIn_seqK (h : X.K = K) : OpR X (compareOp .NotIn) (rIn K true) := by subst h; exact op_notIn_seq
theorem op_eqDK (h : X.K = K) (hu : X.A.units + 64 < cLine) : OpR X (compareOp .Eq) (rEqD K) := by subst h; exact op_eqD hu
theorem op_neDK (h : X.K = K) (hu : X.A.units + 64 < cLine) : OpR X (compareOp .NotEq) (rNeD K) := by subst h; exact op_neD hu
theorem call_isiK' (h : X.K = K) : CallR X (.builtin "isinstance") (rIsi K) := by subst h; exact call_isi
theorem cr_anyK (h : X.K = K) (hc : X.calm = true) : CallR X (.builtin "any") (rAny K) := by subst h; exact cr_any hc
theorem cr_allK (h : X.K = K) (hc : X.calm = true) : CallR X (.builtin "all") (rAll K) := by subst h; exact cr_all hc
theorem cr_sumK (h : X.K = K) (hc : X.calm = true) : CallR X (.builtin "sum") (rSum K) := by subst h; exact cr_sum hc
theorem cr_maxK (h : X.K = K) (hc : X.calm = true) : CallR X (.builtin "max") (rMax K) := by subst h; exact cr_max hc
theorem cr_maxTK (h : X.K = K) (hc : X.calm = true) : CallR X (.builtin "max") (rMaxT K) := by subst h; exact cr_maxT hc
theorem cr_sortedK (h : X.K = K) : CallR X (.builtin "sorted") (rSorted K) := by subst h; exact cr_sorted
theorem cr_sortedSK (h : X.K = K) : CallR X (.builtin "sorted") (rSortedS K) := by subst h; exact cr_sortedS
variable {e o : Expr} {es : List Expr} {ta to te : TE} {t : TA} {f name : Str} {id T : String} {r : V → List V → Hp → VK → Prop} {pos apos cpos : Pos} {tg iter l : Expr} {n k : Nat} {tgs : TGs}
theorem pe_fldK (h : X.K = K) (he : PE X e ta) (hb : attributeBase e f X.env (eval e X.env) = eval e X.env) : PE X (.Attribute e f pos) (tFld K ta f) := by subst h; exact pe_fld he hb
theorem pi_listK (h : X.K = K) (hl : PE X l te) : PI X tg l (iList K te) := by subst h; exact pi_list hl
theorem pi_tupK (h : X.K = K) (hl : PE X l te) : PI X tg l (iTup K te) := by subst h; exact pi_tup hl
theorem pg_tupK (h : X.K = K) (hc : X.calm = true) (hg : PGs X es tgs) (hn : (assignEach es X.env).length = n := by rfl) (hst : (assignEach es X.env).findIdx? (·.1) = none := by rfl) : PG X (.Tuple es k pos) (gTup K n tgs) := by
  subst h; exact pg_tup hc hg hn hst
theorem pe_bmK (h : X.K = K) (pa : PlainAttrs T) (slot : Slot T name id) (hty : typeOf (.builtin id) = pure (.type "method_descriptor")) (hm : MtR X id r) (ho : PE X o to) (ha : PA X (e :: es) t)
    (hbase : attributeBase o name X.env (eval o X.env) = eval o X.env := by rfl)
    (hfew : ((backTo cpos (starEach (e :: es) X.env)).all (fun x => !x.1) && (backToKw cpos (keywordEach [] X.env)).all (fun x => x.1.isSome)
      && decide ((e :: es).length + ([] : List Keyword).length + (if ([] : List Keyword).isEmpty then 0 else 1) < 30)) = true := by rfl)
    (hline : (apos.endLine == cpos.line) = true := by rfl) (hs : starEach (e :: es) X.env = (false, eval e X.env) :: starEach es X.env := by rfl) (hplain : (backTo cpos (starEach es X.env)).any (·.1) = false := by rfl) :
    PE X (.Call (.Attribute o name apos) (e :: es) [] cpos) (tBM K T r to t) := by
  subst h; exact pe_bm pa slot hty hm ho ha hbase hfew hline hs hplain
end
end SH
end

section
namespace SH
open PySem PySem.Spec PyProof.Rows L2
/-! #### methods of own classes, attributes put anew, lists changed in place -/
section
variable {X : Cx} {x m : Str} {k : Nat} {ps : List Str} {sp : Sp} {C : Addr} {E : XK} {p pos apos : Pos} {e o : Expr} {es : List Expr} {ta : TE} {t : TA}
theorem pe_mth {pl : Sem Bool} (D : MthOk X.prog X.w X.K X.mg X.base C m k ps sp) (hr : Room k X.A) (hx : Passes (L2N.CX X.prog X.w) X E) (ho : PE X o ta) (ha : PA X (e :: es) t)
    (hst : starEach (e :: es) X.env = (false, eval e X.env) :: starEach es X.env := by rfl) (hpl : (backTo pos (starEach es X.env)).any (·.1) = false := by rfl)
    (ht : eval (.Call (.Attribute o m apos) (e :: es) [] pos) X.env = (do
      let ov ← eval o X.env
      standAt apos.atName
      let (f, first) ← holding [ov] (getMethod ov m pl)
      callWith pos f first (backTo pos (starEach (e :: es) X.env)) (backToKw pos (keywordEach [] X.env))) := by rfl) :
    PE X (.Call (.Attribute o m apos) (e :: es) [] pos) (tMeth C m sp [] E ta t) := by
  obtain ⟨f, fd, F, hm, hb, hc⟩ := D
  exact pe_meth ho hc hm F hr hb .nil hx ha hst hpl ht
theorem pe_mth0 {pl : Sem Bool} (D : MthOk X.prog X.w X.K X.mg X.base C m k ps sp) (hr : Room k X.A) (hx : Passes (L2N.CX X.prog X.w) X E) (ho : PE X o ta)
    (ht : eval (.Call (.Attribute o m apos) [] [] pos) X.env = (do
      let ov ← eval o X.env
      standAt apos.atName
      let (f, first) ← holding [ov] (getMethod ov m pl)
      callWith pos f first (backTo pos (starEach [] X.env)) (backToKw pos (keywordEach [] X.env))) := by rfl) :
    PE X (.Call (.Attribute o m apos) [] [] pos) (tMeth C m sp [] E ta tNil) := by
  obtain ⟨f, fd, F, hm, hb, hc⟩ := D
  exact pe_meth0 ho hc hm F hr hb .nil hx ht
theorem pe_mk0 (D : MkOk X.prog X.w X.K X.mg X.base x C k ps sp) (hr : Room (k + 1) X.A) (hx : Passes (L2N.CX X.prog X.w) X E) (hg : Gl X x := by rfl) (hdb : (x == ("__debug__" : Str)) = false := by decide) :
    PE X (.Call (.Name x p) [] [] pos) (tMake C sp [] E tNil) := by
  obtain ⟨f, fd, F, hm, hk, hb⟩ := D
  exact pe_make0 hm F hr hg hk hb .nil hx hdb
theorem ps_fldK {K : PySem.W.Frag} {o value : Expr} {f : Str} {pos pos' : Pos} {ta tv : TE} (h : X.K = K) (ha : PE X o ta) (hv : PE X value tv) (hs : swapsWith value (some (.Attribute o f pos')) pos.line X.env = pure false) : PS X (.Assign [.Attribute o f pos'] value pos) (sFld K ta tv f) := by
  subst h; exact ps_fld ha hv hs
theorem ps_fldaugK {K : PySem.W.Frag} {o value : Expr} {f : Str} {pos tpos : Pos} {ta tv : TE} {op : Operator} {rd : V → V → Hp → VK → Prop} (h : X.K = K) (ha : PE X o ta) (hv : PE X value tv) (hop : InOp X op rd) : PS X (.AugAssign (.Attribute o f tpos) op value pos) (sFldAug K ta tv rd f) := by
  subst h; exact ps_fldaug ha hv hop
end
section
variable {K : PySem.W.Frag} {σ : L2.St} {H : Hp} {Q : VK} {x y v : V} {i j : Int} {ta te tv : TE} {tA : TA} {a p C dx : Addr} {fs fs' : List (Str × V)} {f : Str} {xs vs : List V} {N : L2.St → Hp → Prop} {R : VK} {Bk Ct : L2.St → Hp → Prop} {M : Hp → Prop} {rd : V → V → Hp → VK → Prop}
theorem szf {α : Type} {xs : List α} (h : Nat.ble (xs.length + 1) 1000 = true) : xs.length < 1000 := by
  have := Nat.le_of_ble_eq_true h
  omega
theorem g_stA (h : H a = some (.ins C dx fs)) (c : Cls K C) (na : NoAttr K C f) (e : putF f y fs = fs') (hl : fs.length < 1000) (q : ∀ H', H' a = some (.ins C dx fs') → Off [a] H H' → M H') : stR K f y (.ref a) H M :=
  g_stR h c na hl (q _ (by rw [e]; exact upd_same) (.put (by simp) h trivial))
def putA (f : Str) (a : Addr) (M : Hp → Prop) (z : V) (H3 : Hp) : Prop := ∃ dx' fs' C, H3 a = some (.ins C dx' fs') ∧ fs'.length < 1000 ∧ M (upd H3 a (.ins C dx' (putF f z fs')))
def augR (K : PySem.W.Frag) (f : Str) (tv : TE) (rd : V → V → Hp → VK → Prop) (σ : L2.St) (M : Hp → Prop) (x : V) (H1 : Hp) : Prop := ∃ a C dx fs v, x = .ref a ∧ H1 a = some (.ins C dx fs) ∧ Cls K C ∧ NoAttr K C f ∧ fs.lookup f = some v ∧
  tv σ H1 fun y H2 => rd v y H2 fun z H3 => ∃ dx' fs', H3 a = some (.ins C dx' fs') ∧ fs'.length < 1000 ∧ M (upd H3 a (.ins C dx' (putF f z fs')))
theorem g_fldAug (q : ta σ H (augR K f tv rd σ (N σ))) : sFldAug K ta tv rd f ⟨N, R, Bk, Ct⟩ σ H := q
def putC (f : Str) (a C : Addr) (M : Hp → Prop) (z : V) (H3 : Hp) : Prop := ∃ dx' fs', H3 a = some (.ins C dx' fs') ∧ fs'.length < 1000 ∧ M (upd H3 a (.ins C dx' (putF f z fs')))
theorem g_augR (h : H a = some (.ins C dx fs)) (c : Cls K C) (na : NoAttr K C f) (l : fs.lookup f = some v) (q : tv σ H fun y H2 => rd v y H2 (putC f a C M)) : augR K f tv rd σ M (.ref a) H := ⟨a, C, dx, fs, v, rfl, h, c, na, l, q⟩
theorem g_putC {z : V} (h : H a = some (.ins C dx fs)) (e : putF f z fs = fs') (hl : fs.length < 1000) (q : ∀ H', H' a = some (.ins C dx fs') → Off [a] H H' → M H') : putC f a C M z H :=
  ⟨dx, fs, h, hl, q _ (by rw [e]; exact upd_same) (.put (by simp) h trivial)⟩
theorem g_rAdd (q : Q (.int (i + j)) H) : rAdd (.int i) (.int j) H Q := ⟨i, j, rfl, rfl, q⟩
theorem g_rSub (q : Q (.int (i - j)) H) : rSub (.int i) (.int j) H Q := ⟨i, j, rfl, rfl, q⟩
theorem g_app' (h : H a = some (.lst xs)) (hl : xs.length < sizeLine) (q : ∀ H', H' a = some (.lst (xs ++ [y])) → Off [a] H H' → Q .non H') : rAppend (.ref a) [y] H Q := ⟨a, xs, y, rfl, rfl, h, hl, q _ upd_same (.put (by simp) h trivial)⟩
theorem g_popF (h : H a = some (.lst (x :: xs))) (q : ∀ H', H' a = some (.lst xs) → Off [a] H H' → Q x H') : rPopAt (.ref a) [.int 0] H Q :=
  ⟨a, x :: xs, 0, 0, x, rfl, rfl, h, by decide, by decide, by simp [seqIndex?], rfl, q _ upd_same (.put (by simp) h trivial)⟩
theorem g_bml {r : V → List V → Hp → VK → Prop} (h : SqL K H a xs) (q : tA σ H fun xs H2 => r (.ref a) xs H2 Q) : tyV K "list" (.ref a) H ∧ tA σ H (fun xs H2 => r (.ref a) xs H2 Q) := ⟨.inl ⟨rfl, _, h⟩, q⟩
theorem g_isiOwn {C' : Addr} {b : Bool} (h : H a = some (.ins C dx fs)) (cl : Cls K C) (o : IsOwn K C) (e : PySem.W.kitOne K (.ref C) (.ref C') = some b) (q : Q (.bl b) H) : rIsi K [.ref a, .ref C'] H Q :=
  ⟨.ref a, .ref C', _, _, b, rfl, .own C', .base (.ins h cl o.ha o.hn o.ht o.hm), e, q⟩
theorem kit_self {C : Addr} : PySem.W.kitOne K (.ref C) (.ref C) = some true := by
  unfold PySem.W.kitOne
  rw [if_pos (by simp)]
theorem g_isiSelf (h : H a = some (.ins C dx fs)) (cl : Cls K C) (o : IsOwn K C) (q : Q (.bl true) H) : rIsi K [.ref a, .ref C] H Q := g_isiOwn h cl o kit_self q
theorem br_k {k : Kd} {A B : Prop} (q : A) : br (k == k) A B := by
  have e : (k == k) = true := by cases k <;> rfl
  rw [e]; exact br_t q
theorem br_nk {k : Kd} {A B : Prop} (q : B) : br (!(k == k)) A B := by
  have e : (k == k) = true := by cases k <;> rfl
  rw [e]; exact br_f q
theorem br_ntt {A B : Prop} (q : B) : br (!true) A B := br_f q
theorem br_ntf {A B : Prop} (q : A) : br (!false) A B := br_t q
theorem br_inF {A B : Prop} (h : inV x xs = false) (q : B) : br (inV x xs) A B := by rw [h]; exact br_f q
theorem br_inT {A B : Prop} (h : inV x xs = true) (q : A) : br (inV x xs) A B := by rw [h]; exact br_t q
theorem g_inT (h : SqT K H a xs) (hx : flatV x = true) (ha : xs.all flatV = true) (q : Q (.bl (inV x xs)) H) : rIn K false x (.ref a) H Q := g_in (.inr h) hx ha (by rw [if_neg (by decide)]; exact q)
end
section
variable {K : PySem.W.Frag} {σ : L2.St} {H : Hp} {Q : VK} {te : TE} {tt : TT} {gt : TG} {a : Addr} {xs : List V}
theorem lcL_at {ws : List Nat} (ys : List V) (hx : SqL K H a xs) (hl : ys.length = xs.length) (hz : xs.length < sizeLine)
    (hs : ∀ (i : Nat) (x y : V) (H1 : Hp), xs[i]? = some x → ys[i]? = some y → Off [] H H1 → ∀ (M : V → Hp → Prop) (N : Hp → Prop), (∀ H2, Off [] H1 H2 → M y H2) → gt x (wipe σ ws) H1 fun σ2 H2 => wipe σ2 ws = wipe σ ws ∧ tt σ2 H2 fun b H3 => br b (te σ2 H3 M) (N H3))
    (q : ∀ D H1, H D = none → Off [] H H1 → H1 D = some (.lst ys) → Q (.ref D) H1) : lcL K (.ref a) H gt tt te ws σ Q := by
  refine lcL_mk (fun D i H1 => Off [] H H1 ∧ H1 D = some (.lst (ys.take i))) hx (fun D hD => ⟨.new hD, by simp [upd_same]⟩) (fun D i H1 hD hi p => p.1.seqL nin_nil hx) (fun D i x H1 hD hi p => ?_) (fun D H1 hD p => q D H1 hD p.1 (by rw [p.2, ← hl, List.take_length]))
  obtain ⟨p1, p2⟩ := p
  have hlt : i < ys.length := by rw [hl]; exact (List.getElem?_eq_some_iff.mp hi).1
  have hy : ys[i]? = some ys[i] := List.getElem?_eq_getElem hlt
  refine hs i x _ H1 hi hy p1 _ _ fun H2 o2 => ?_
  refine g_app (o2.at nin_nil p2) (by rw [List.length_take]; omega) ⟨(p1.trans o2).mut hD, ?_⟩
  rw [upd_same, List.take_add_one, hy]
  rfl
theorem lcT_at {ws : List Nat} (ys : List V) (hx : SqT K H a xs) (hl : ys.length = xs.length) (hz : xs.length < sizeLine)
    (hs : ∀ (i : Nat) (x y : V) (H1 : Hp), xs[i]? = some x → ys[i]? = some y → Off [] H H1 → ∀ (M : V → Hp → Prop) (N : Hp → Prop), (∀ H2, Off [] H1 H2 → M y H2) → gt x (wipe σ ws) H1 fun σ2 H2 => wipe σ2 ws = wipe σ ws ∧ tt σ2 H2 fun b H3 => br b (te σ2 H3 M) (N H3))
    (q : ∀ D H1, H D = none → Off [] H H1 → H1 D = some (.lst ys) → Q (.ref D) H1) : lcT K (.ref a) H gt tt te ws σ Q := by
  refine lcT_mk (fun D i H1 => Off [] H H1 ∧ H1 D = some (.lst (ys.take i))) hx (fun D hD => ⟨.new hD, by simp [upd_same]⟩) (fun D i H1 hD hi p => p.1.seqT hx) (fun D i x H1 hD hi p => ?_) (fun D H1 hD p => q D H1 hD p.1 (by rw [p.2, ← hl, List.take_length]))
  obtain ⟨p1, p2⟩ := p
  have hlt : i < ys.length := by rw [hl]; exact (List.getElem?_eq_some_iff.mp hi).1
  have hy : ys[i]? = some ys[i] := List.getElem?_eq_getElem hlt
  refine hs i x _ H1 hi hy p1 _ _ fun H2 o2 => ?_
  refine g_app (o2.at nin_nil p2) (by rw [List.length_take]; omega) ⟨(p1.trans o2).mut hD, ?_⟩
  rw [upd_same, List.take_add_one, hy]
  rfl
end
end SH
end

section
namespace SH
open PySem PySem.Spec PyProof.Rows L2
/-! ### own errors that are caught -/
/-- what the class at C must say so that a caught one's field f is read, and isinstance asks it rightly -/
structure XcOk (K : PySem.W.Frag) (C : Addr) (f : Str) : Prop where
  xf : XfC K C
  nf : PySem.W.findIn K (.ref C) f = some none
  cl : (PySem.W.clsIn K C).isSome = true
  ha : PySem.W.findIn K (.ref C) "__class__" = some (some (.builtin "object.__class__"))
  hn : PySem.W.specialIn K (.builtin "object.__class__") "__get__" = some (some (.builtin "getset_descriptor.__get__"))
  ht : PySem.W.takesIn K (.builtin "object.__class__") = some true
  hm : PySem.W.mroIn K C (.type "object") = some true
def xcBs (K : PySem.W.Frag) (C : Addr) (f : Str) : List Bool := [xfB K C, decide (PySem.W.findIn K (.ref C) f = some none), (PySem.W.clsIn K C).isSome,
  decide (PySem.W.findIn K (.ref C) "__class__" = some (some (.builtin "object.__class__"))), decide (PySem.W.specialIn K (.builtin "object.__class__") "__get__" = some (some (.builtin "getset_descriptor.__get__"))),
  decide (PySem.W.takesIn K (.builtin "object.__class__") = some true), decide (PySem.W.mroIn K C (.type "object") = some true)]
def xcB (K : PySem.W.Frag) (C : Addr) (f : Str) : Bool := (xcBs K C f).all id
theorem xcB_ok {K : PySem.W.Frag} {C : Addr} {f : Str} (h : xcB K C f = true) : XcOk K C f := by
  have a : ∀ b ∈ xcBs K C f, b = true := fun b hb => List.all_eq_true.mp h b hb
  exact ⟨xfB_ok (a _ (by simp [xcBs])), of_decide_eq_true (a _ (by simp [xcBs])), a _ (by simp [xcBs]), of_decide_eq_true (a _ (by simp [xcBs])), of_decide_eq_true (a _ (by simp [xcBs])), of_decide_eq_true (a _ (by simp [xcBs])), of_decide_eq_true (a _ (by simp [xcBs]))⟩
/-- whether errors of the class at C are of that at D -/
structure XrOk (K : PySem.W.Frag) (C D : Addr) (b : Bool) : Prop where
  ex : PySem.W.exmOne K (.ref C) (.ref D) = some b
  kt : PySem.W.kitOne K (.ref C) (.ref D) = some b
def xrB (K : PySem.W.Frag) (C D : Addr) (b : Bool) : Bool := decide (PySem.W.exmOne K (.ref C) (.ref D) = some b) && decide (PySem.W.kitOne K (.ref C) (.ref D) = some b)
theorem xrB_ok {K : PySem.W.Frag} {C D : Addr} {b : Bool} (h : xrB K C D b = true) : XrOk K C D b := by
  unfold xrB at h
  rw [Bool.and_eq_true] at h
  exact ⟨of_decide_eq_true h.1, of_decide_eq_true h.2⟩
/-- isinstance(e, c), e a caught error of the class at D with a dict -/
def rIsX (K : PySem.W.Frag) (D a : Addr) (cls : Value) (d : Option Addr) : List V → Hp → VK → Prop := fun xs H Q => ∃ (C dd : Addr) (fs : List (Str × V)) (b : Bool), xs = [.ref a, .ref C] ∧ cls = .ref D ∧ d = some dd ∧ H dd = some (.xd fs) ∧ PySem.W.kitOne K (.ref D) (.ref C) = some b ∧ Q (.bl b) H
theorem call_isX {X : Cx} {a D : Addr} {f : Str} {cls : Value} {d : Option Addr} {oe : Obj} {pn : List (Addr × Obj)} (T : XcOk X.K D f) (hz : Zc cls d oe) (hf : ∃ vs, oe.data = .fields vs) :
    CallR (X.suite a ((a, oe) :: pn)) (.builtin "isinstance") (rIsX X.K D a cls d) := by
  intro pins s σ H xs us Q I r h
  obtain ⟨C, dd, fs, b, rfl, rfl, rfl, hd, e, q⟩ := h
  obtain ⟨u1, u2, rfl, rfl, rfl⟩ : ∃ u1 u2, us = [u1, u2] ∧ u1 = Value.ref a ∧ u2 = Value.ref C := by
    cases r with
    | cons r1 r2 => cases r2 with
      | cons r3 r4 =>
        cases r4
        exact ⟨_, _, rfl, r1, r3⟩
  obtain ⟨ge, _⟩ := I.pin (a, oe) (by simp)
  obtain ⟨vs, hv⟩ := hf
  obtain ⟨m, ns, _⟩ := (I.hok dd _ hd : ObjOk X.prog X.w H s.heap dd (.xd fs))
  obtain ⟨od, ho, _⟩ := lookIn_ns ns
  have J : PySem.W.InstAt s.heap a oe D (some od) := ⟨ge, hz.1, (by unfold PySem.W.notCls; rw [hv] <;> rfl), (by rw [hz.2]; exact ho)⟩
  have Z := PySem.W.kitx_exc (x := a) (ox := oe) (od := some od) T.cl T.xf.ga T.xf.gg T.xf.exC T.ha T.hn T.ht T.hm
  exact PySem.W.kia_one Z I.kIn J e (fun z => by cases z) fun tk => ⟨.bl b, H, I.kept (t' := tk) fun _ _ z => z, rfl, q⟩

/-! #### values of other kinds are no instances -/
def kdAll : List Kd := [.non, .bl, .int, .str, .lst, .tup, .dct]
def KNot (K : PySem.W.Frag) (C : Addr) : Prop := ∀ k : Kd, PySem.W.kitOne K (.type k.nm) (.ref C) = some false
def knB (K : PySem.W.Frag) (C : Addr) : Bool := kdAll.all fun k => decide (PySem.W.kitOne K (.type k.nm) (.ref C) = some false)
theorem knB_ok {K : PySem.W.Frag} {C : Addr} (h : knB K C = true) : KNot K C := fun k => of_decide_eq_true (List.all_eq_true.mp h k (by cases k <;> simp [kdAll]))
theorem g_isiKd {K : PySem.W.Frag} {H : Hp} {Q : VK} {x : V} {k : Kd} {C : Addr} (h : KdV K H x k) (n : KNot K C) (q : Q (.bl false) H) : rIsi K [x, .ref C] H Q := ⟨x, .ref C, _, _, false, rfl, .own C, h.ty, n k, q⟩
/-! #### calls in a try's body -/
def tMethS (C : Addr) (m : Str) (sp : Sp) (E : L2.St → XK) (ta : TE) (t : TA) : TE := fun σ H Q => ta σ H fun x H1 => insR C m x H1 (t σ H1 fun vs H2 => sp (x :: vs) H2 Q (E σ))
section
variable {X : Cx} {x m : Str} {k : Nat} {ps : List Str} {sp : Sp} {C : Addr} {W : WX} {p pos apos : Pos} {e o : Expr} {es : List Expr} {ta : TE} {t : TA}
theorem pe_dfS (D : DefOk X.prog X.w X.K X.mg X.base x k ps sp) (hr : Room k X.A) (tk : L2N.Takes X W) (ha : PA X (e :: es) t) (hg : Gl X x := by rfl) (hdb : (x == ("__debug__" : Str)) = false := by decide)
    (hs : starEach (e :: es) X.env = (false, eval e X.env) :: starEach es X.env := by rfl) (hp : (backTo pos (starEach es X.env)).any (·.1) = false := by rfl) : PE X (.Call (.Name x p) (e :: es) [] pos) (tCallS sp (WE W) t) :=
  D.elim fun _ D => D.elim fun _ D => pe_callS D.1 hr hg D.2.1 D.2.2.1 D.2.2.2 (fun σ => L2N.passAt tk σ) ha hdb hs hp
theorem pe_mthS {pl : Sem Bool} (D : MthOk X.prog X.w X.K X.mg X.base C m k ps sp) (hr : Room k X.A) (tk : L2N.Takes X W) (ho : PE X o ta) (ha : PA X (e :: es) t)
    (hst : starEach (e :: es) X.env = (false, eval e X.env) :: starEach es X.env := by rfl) (hpl : (backTo pos (starEach es X.env)).any (·.1) = false := by rfl)
    (ht : eval (.Call (.Attribute o m apos) (e :: es) [] pos) X.env = (do
      let ov ← eval o X.env
      standAt apos.atName
      let (f, first) ← holding [ov] (getMethod ov m pl)
      callWith pos f first (backTo pos (starEach (e :: es) X.env)) (backToKw pos (keywordEach [] X.env))) := by rfl) :
    PE X (.Call (.Attribute o m apos) (e :: es) [] pos) (tMethS C m sp (WE W) ta t) := by
  obtain ⟨f, fd, F, hm, hb, hc⟩ := D
  constructor
  intro pins s σ H Q I h
  have run := ho.run pins s σ H _ I h
  refine PySem.W.methodCall_KW (pl := pl) (thn run ?_) ht
  rintro u s1 ⟨y, H1, I1, ry, a, dx, fs, rfl, ea, l, q⟩
  cases (show u = Value.ref a from ry)
  apply getmeth_ok I1 ea hc hm l
  have go := ha.run pos pins s1 σ H1 _ I1 q
  refine PySem.W.callWith_K (h₀ := X.base) (first := [.ref a]) I.ok.mod.kin hm.kp (thn go ?_) hst hpl
  rintro us s2 ⟨vs, H2, I2, r, q2⟩
  exact ⟨I2.kIn, run_fnS (vs := .ref a :: vs) (us := .ref a :: us) F hr hb (L2N.passAt tk σ) I2 (.cons rfl r) q2⟩
end
/-! #### try .. except .. as -/
def tTryAs (K : PySem.W.Frag) (c : Value) (i : Nat) (tb : WX → TS) (ts : Addr → Value → Option Addr → TS) (Wout : WX) : TS := fun D σ H => tb (wAs K c i ts Wout D) D σ H
def tTryOnly (K : PySem.W.Frag) (c : Value) (tb : WX → TS) (ts : Addr → Value → Option Addr → TS) (Wout : WX) : TS := fun D σ H => tb (wMany K Wout D [(c, ts)]) D σ H
section
variable {X : Cx} {K : PySem.W.Frag} {x n : Str} {c : Value} {i : Nat} {body suite : List Stmt} {b₀ : Stmt} {np pos pos' : Pos} {tb : WX → TS} {ts : Addr → Value → Option Addr → TS} {Wout : WX}
theorem ps_tryAs (hK : X.K = K) (hs : X.stack = X.env :: X.outer) (hf : X.env.frame = some X.env.locals) (hN : X.N.Nodup) (hi : X.N[i]? = some n) (hln : X.env.kindOf n = some .local) (hc : Names X x c) (tk : L2N.Takes X Wout)
    (hb : ∀ (W : WX) (pn : List (Addr × Obj)) (xe : Value → Shared → Prop), L2N.Takes (X.tr pn xe) W → PassesOwn (model X.prog X.w) X.A X.env xe → PSs (X.tr pn xe) body (tb W))
    (hsu : ∀ (a : Addr) (oe : Obj) (cls : Value) (d : Option Addr) (pn : List (Addr × Obj)), L2N.Zn cls d oe → (∃ vs, oe.data = .fields vs) → PSs (X.suite a ((a, oe) :: pn)) (b₀ :: suite) (ts a cls d)) :
    PS X (.Try body [.ExceptHandler (some (.Name x np)) (some n) (b₀ :: suite) pos'] [] [] pos) (tTryAs K c i tb ts Wout) := by
  subst hK
  exact L2N.ps_try_as hs hf hN hi hln hc tk hb hsu
theorem ps_tryOnly (hK : X.K = K) (hs : X.stack = X.env :: X.outer) (hf : X.env.frame = some X.env.locals) (hc : Names X x c) (tk : L2N.Takes X Wout)
    (hb : ∀ (W : WX) (pn : List (Addr × Obj)) (xe : Value → Shared → Prop), L2N.Takes (X.tr pn xe) W → PassesOwn (model X.prog X.w) X.A X.env xe → PSs (X.tr pn xe) body (tb W))
    (hsu : ∀ (a : Addr) (oe : Obj) (cls : Value) (d : Option Addr) (pn : List (Addr × Obj)), L2N.Zn cls d oe → (∃ vs, oe.data = .fields vs) → PSs (X.suite a ((a, oe) :: pn)) (b₀ :: suite) (ts a cls d)) :
    PS X (.Try body [.ExceptHandler (some (.Name x np)) none (b₀ :: suite) pos'] [] [] pos) (tTryOnly K c tb ts Wout) := by
  subst hK
  exact L2N.ps_try_many hs hf tk hb (.cons hc hsu .nil)
end
section
variable {K : PySem.W.Frag} {σ : L2.St} {H : Hp} {Q : VK} {C D a dd : Addr} {f : Str} {W Wout : WX} {ta te : TE} {t tA : TA} {v : V} {N : L2.St → Hp → Prop} {R : VK} {Bk Ct : L2.St → Hp → Prop} {c : Value} {i : Nat} {tb : WX → TS} {ts : Addr → Value → Option Addr → TS} {m : Str} {sp : Sp} {E : L2.St → XK} {cls : Value} {d : Option Addr} {b : Bool} {fs : List (Str × V)}
theorem g_try (q : tb (wAs K c i ts Wout ⟨N, R, Bk, Ct⟩) ⟨N, R, Bk, Ct⟩ σ H) : tTryAs K c i tb ts Wout ⟨N, R, Bk, Ct⟩ σ H := q
theorem g_tryO (q : tb (wMany K Wout ⟨N, R, Bk, Ct⟩ [(c, ts)]) ⟨N, R, Bk, Ct⟩ σ H) : tTryOnly K c tb ts Wout ⟨N, R, Bk, Ct⟩ σ H := q
theorem g_methS (q : ta σ H fun x H1 => insR C m x H1 (t σ H1 fun vs H2 => sp (x :: vs) H2 Q (E σ))) : tMethS C m sp E ta t σ H Q := q
theorem g_callS (q : tA σ H fun vs H1 => sp vs H1 Q (E σ)) : tCallS sp E tA σ H Q := q
theorem g_caught (e : PySem.W.exmOne K (.ref C) c = some true) (q : ∀ a, H a = none → ts a (.ref C) d ⟨fun σ' H' => N (σ'.set i none) H', R, fun σ' H' => Bk (σ'.set i none) H', fun σ' H' => Ct (σ'.set i none) H'⟩ (σ.set i (some (.ref a))) H) :
    WE (wAs K c i ts Wout ⟨N, R, Bk, Ct⟩) σ (.ref C) d H := ⟨true, e, fun _ => q, fun z => Bool.noConfusion z⟩
theorem g_missed (e : PySem.W.exmOne K (.ref C) c = some false) (q : Wout (.ref C) d σ H) : WE (wAs K c i ts Wout ⟨N, R, Bk, Ct⟩) σ (.ref C) d H := ⟨false, e, fun z => Bool.noConfusion z, fun _ => q⟩
def xfR (a : Addr) (cls : Value) (d : Option Addr) (C : Addr) (f : Str) (Q : VK) (x : V) (H1 : Hp) : Prop := x = .ref a ∧ cls = .ref C ∧ ∃ (dd : Addr) (fs : List (Str × V)) (v : V), d = some dd ∧ H1 dd = some (.xd fs) ∧ fs.lookup f = some v ∧ Q v H1
theorem g_xf (q : te σ H (xfR a cls d C f Q)) : tXf a cls d C f te σ H Q := q
theorem g_xfR (h : H dd = some (.xd fs)) (l : fs.lookup f = some v) (q : Q v H) : xfR a (.ref C) (some dd) C f Q (.ref a) H := ⟨rfl, rfl, dd, fs, v, rfl, h, l, q⟩
theorem g_isX (h : H dd = some (.xd fs)) (e : PySem.W.kitOne K (.ref D) (.ref C) = some b) (q : Q (.bl b) H) : rIsX K D a (.ref D) (some dd) [.ref a, .ref C] H Q := ⟨C, dd, fs, b, rfl, rfl, rfl, h, e, q⟩
end
end SH
end

section
namespace SH
open PySem PySem.Spec PyProof.Rows L2
/-! ### defs that show lists as texts: called where no such showing is under way -/
structure FnG (P : Program) (w : World) (K : PySem.W.Frag) (mg : Str → Option Value) (base : Heap) (CX : CXT) (k : Nat) (f : Addr) (fd : FuncData) (ps : List Str) (sp : Sp) : Prop where
  len : ∀ vs H Q E, sp vs H Q E → vs.length = ps.length
  run : ∀ (A : Around) (outer : List Env) (s : Shared) (H : Hp) (args : Args) (us : List Value) (vs : List V) (Q : VK) (E : XK), A.guards = some [] → Room k A → Env0 P w K mg base A outer s H →
    BindsTo s fd args (ps.zip us) → Vals vs us → sp vs H Q E → codeAny (model P w) A (.call (.ref f) args) (CR CX outer P w H s Q E) s
def DefG (P : Program) (w : World) (K : PySem.W.Frag) (mg : Str → Option Value) (base : Heap) (x : Str) (k : Nat) (ps : List Str) (sp : Sp) : Prop :=
  ∃ f fd, FnG P w K mg base (L2N.CX P w) k f fd ps sp ∧ mg x = some (.ref f) ∧ PySem.W.keepIn K (.ref f) = true ∧ Binds K fd ps [] ∧ ∃ oc od osl, K.lookup f = some ⟨oc, od, .func fd, osl⟩
section
variable {P : Program} {w : World} {K : PySem.W.Frag} {mg : Str → Option Value} {base : Heap} {x : Str} {st : Stmt} {N ps : List Str} {k : Nat} {sp : Sp}
theorem TopD.okG (T : TopD K mg x st) (S : FnScope N ps (defScope st))
    (hb : ∀ (kV doc pm : Value) (an : Option Addr) (cdv ct : Value) (us : List Value), us.length = ps.length → bindArgs (PySem.W.fnOf x x (defArgs st) (defBody st) (defScope st) .none kV doc pm an cdv ct) ⟨us, []⟩ = pure (ps.zip us))
    (len : ∀ vs H Q E, sp vs H Q E → vs.length = ps.length)
    (hbody : ∀ (f : Addr) (cdv : Value) (A : Around) (outer : List Env) (s : Shared) (H : Hp) (vs : List V) (Q : VK) (E : XK), (A.deeper (envOfC x (defScope st) s.heap.objs.size f cdv)).guards = some [] → Room k (A.deeper (envOfC x (defScope st) s.heap.objs.size f cdv)) → sp vs H Q E →
      ∃ t, PSs (cxOf (L2N.CX P w) P w K mg base N x (defScope st) f cdv A outer s H E) (defBody st) t ∧ t { nx := fun _ H' => Q .non H', rt := Q } (start N vs) H) : DefG P w K mg base x (k + 1) ps sp := by
  obtain ⟨f, fd, F, hm⟩ := T
  have hkp := F.kp
  have hbn := F.bindsN hb
  obtain ⟨oc, od, dV, kV, doc, pm, an, cdv, ct, osl, rfl, lk, hcd, _, _⟩ := F.ex
  refine ⟨f, _, ⟨len, ?_⟩, hm, hkp, hbn, _, _, _, lk⟩
  intro A outer s H args us vs Q E hg hr e0 hbd rv hsp
  obtain ⟨t, ht, hq⟩ := hbody f cdv A outer s H vs Q E hg (hr.deeper _) hsp
  have old : ∀ b o, base.get? b = some o → s.heap.get? b = some o := fun b o e => (e0.bs b o e).1
  have kin : K.In s.heap := e0.mod.kin.keeps old
  have kinds : ∀ y ∈ ps.zip us, (defScope st).names.lookup y.1 = some .local ∨ ((defScope st).names.lookup y.1 = some .cell ∧ ((cellsFrom (s.heap.objs.size + 1) (defScope st).names []).lookup y.1).isSome = true) := by
    intro y hy
    have hz := S.par y.1 (List.of_mem_zip (show (y.1, y.2) ∈ ps.zip us from hy)).1
    exact hz.elim Or.inl fun z => Or.inr ⟨z, PySem.W.cellsFrom_some _ _ _ (Or.inl z)⟩
  apply codeAny_call_function hr.depth (kin _ _ lk) rfl S.co S.gen rfl (PySem.W.codeRec_of kin hcd)
  apply hbd
  apply wpAny_newFunctionEnv_cells S.kind kinds
  intro env he s1 x1
  subst he
  have I : Inv (cxOf (L2N.CX P w) P w K mg base N x (defScope st) f cdv A outer s H E) [] (start N vs) H s1 := inv_start S hr.hd e0 (len _ _ _ _ hsp) rv x1
  constructor
  · exact (e0.mod.nolimit.keeps old).keeps x1.toInCall.keep
  · apply codeAny_func
    apply wpAny_mono (ht.run [] s1 (start N vs) H _ I hq) ?_ (fun _ _ z => z)
    intro fl s' z
    cases fl with
    | brk => exact z.elim fun _ z => z.elim fun _ z => z.2.elim
    | cont => exact z.elim fun _ z => z.elim fun _ z => z.2.elim
    | next =>
      obtain ⟨σ', H', J, q⟩ := z
      exact ⟨V.non, H', J.os, J.bare, J.base, J.hok, rfl, q⟩
    | ret u =>
      obtain ⟨v, σ', H', J, r, q⟩ := z
      exact ⟨v, H', J.os, J.bare, J.base, J.hok, r, q⟩
end
section
variable {X : Cx} {x : Str} {k : Nat} {ps : List Str} {sp : Sp} {E : XK} {p pos : Pos} {e : Expr} {es : List Expr} {t : TA}
theorem pe_dfG (D : DefG X.prog X.w X.K X.mg X.base x k ps sp) (gd : X.A.guards = some []) (hr : Room k X.A) (hx : Passes (L2N.CX X.prog X.w) X E) (ha : PA X (e :: es) t) (hg : Gl X x := by rfl) (hdb : (x == ("__debug__" : Str)) = false := by decide)
    (hs : starEach (e :: es) X.env = (false, eval e X.env) :: starEach es X.env := by rfl) (hp : (backTo pos (starEach es X.env)).any (·.1) = false := by rfl) : PE X (.Call (.Name x p) (e :: es) [] pos) (tCall sp [] E t) := by
  obtain ⟨f, fd, F, hm, hk, hb, _⟩ := D
  constructor
  intro pins s σ H Q I h
  apply wpAny_Call_Name_kw (ld_glob I hg hm ?_ hdb)
  refine PySem.W.callWith_K (h₀ := X.base) I.ok.mod.kin hk (thn (ha.run pos pins s σ H _ I h) ?_) hs hp
  rintro us s1 ⟨vs, H1, I1, r, q⟩
  refine ⟨I1.kIn, ?_⟩
  rw [List.append_nil] at q
  have hl : us.length = ps.length := by
    rw [← r.length]
    exact F.len _ _ _ _ q
  have bd := hb s1 us I1.kIn (by rw [List.append_nil]; exact hl)
  rw [List.append_nil] at bd
  have run := F.run X.A X.stack s1 H1 ⟨us, []⟩ us vs Q E gd hr I1.env0 bd r q
  refine wpAny_call (codeAny_mono run ?_)
  intro res s2 z
  match res, z with
  | .error er, z => exact hx pins σ H1 s1 er s2 I1 z
  | .ok (.ret u), z => exact I1.after z
  | .ok .next, z => exact z.elim
  | .ok .brk, z => exact z.elim
  | .ok .cont, z => exact z.elim
/-! #### repr of lists and tuples -/
/-- data small enough to be shown -/
structure Shw (d : PyData) (n k : Nat) : Prop where
  lay : PyData.canLay0 d = true
  sht : PyData.intsShort 13 d = true
  shw : PyData.showable d = true
  nod : PyData.hasDict d = false
  wgt : PyData.weight d ≤ n
  dep : PyData.depth d ≤ k
structure ShwL (ds : List PyData) (n k : Nat) : Prop where
  lay : PyData.canLayAll0 ds = true
  sht : PyData.intsShortAll 13 ds = true
  shw : PyData.showableAll ds = true
  nod : PyData.hasDictAll ds = false
  wgt : PyData.weightAll ds ≤ n
  dep : PyData.depthAll ds ≤ k
theorem Shw.mono {d : PyData} {n m k j : Nat} (h : Shw d n k) (a : n ≤ m) (b : k ≤ j) : Shw d m j := ⟨h.lay, h.sht, h.shw, h.nod, Nat.le_trans h.wgt a, Nat.le_trans h.dep b⟩
theorem ShwL.mono {d : List PyData} {n m k j : Nat} (h : ShwL d n k) (a : n ≤ m) (b : k ≤ j) : ShwL d m j := ⟨h.lay, h.sht, h.shw, h.nod, Nat.le_trans h.wgt a, Nat.le_trans h.dep b⟩
theorem ShwL.nil : ShwL [] 0 0 := ⟨rfl, rfl, rfl, rfl, Nat.le_refl _, Nat.le_refl _⟩
theorem ShwL.cons {d : PyData} {ds : List PyData} {n m k : Nat} (h : Shw d n k) (t : ShwL ds m k) : ShwL (d :: ds) (n + 1 + m) k where
  lay := by
    show (PyData.canLay0 d && PyData.canLayAll0 ds) = true
    rw [h.lay, t.lay]; rfl
  sht := by
    show (PyData.intsShort 13 d && PyData.intsShortAll 13 ds) = true
    rw [h.sht, t.sht]; rfl
  shw := by
    show (PyData.showable d && PyData.showableAll ds) = true
    rw [h.shw, t.shw]; rfl
  nod := by
    show (PyData.hasDict d || PyData.hasDictAll ds) = false
    rw [h.nod, t.nod]; rfl
  wgt := by
    show PyData.weight d + 1 + PyData.weightAll ds ≤ _
    have := h.wgt; have := t.wgt; omega
  dep := by
    show max (PyData.depth d) (PyData.depthAll ds) ≤ k
    have := h.dep; have := t.dep; omega
theorem ShwL.lst {ds : List PyData} {n k : Nat} (h : ShwL ds n k) : Shw (.list ds) n (k + 1) := ⟨h.lay, h.sht, h.shw, h.nod, h.wgt, by show PyData.depthAll ds + 1 ≤ _; have := h.dep; omega⟩
theorem ShwL.tup {ds : List PyData} {n k : Nat} (h : ShwL ds n k) : Shw (.tuple ds) n (k + 1) := ⟨h.lay, h.sht, h.shw, h.nod, h.wgt, by show PyData.depthAll ds + 1 ≤ _; have := h.dep; omega⟩
theorem Shw.bool (b : Bool) : Shw (.bool b) 0 0 := ⟨rfl, rfl, rfl, rfl, Nat.le_refl _, Nat.le_refl _⟩
theorem str_short {s : String} {k : Nat} (h : s.length ≤ k) : (Str.ofString s).length ≤ k := by rw [PySem.ofString_length]; exact h
theorem Shw.int {i : Int} (h : i.natAbs < 1000000000000) : Shw (.int i) 40 0 where
  lay := rfl
  sht := by
    show decide (_ ≤ 13) = true
    refine decide_eq_true ?_
    exact str_short (int_text_length_le10 (k := 12) (by decide) h)
  shw := by
    show decide (i.natAbs.log2 < 1920) = true
    refine decide_eq_true ?_
    by_cases h0 : i.natAbs = 0
    · rw [h0]; decide
    · have : i.natAbs.log2 < 40 := (Nat.log2_lt h0).mpr (by omega)
      omega
  nod := rfl
  wgt := by
    show (if i == 0 then 0 else i.natAbs.log2 + 1) ≤ 40
    split
    · omega
    · rename_i h0
      have h1 : i ≠ 0 := by simpa using h0
      have : i.natAbs.log2 < 40 := (Nat.log2_lt (by omega)).mpr (by omega)
      omega
  dep := Nat.le_refl _
/-- repr(x), x a list or a tuple of data -/
def rRepr (K : PySem.W.Frag) : List V → Hp → VK → Prop := fun xs H Q => ∃ (a : Addr) (d : PyData), xs = [.ref a] ∧ Dp K H (.ref a) d ∧ Shw d 1000000 60 ∧ Q (.str d.shown) H
theorem call_reprG {K : PySem.W.Frag} (hK : X.K = K) (gd : X.A.guards = some []) (hu : X.A.units + 64 < cLine) : CallR X (.builtin "repr") (rRepr K) := by
  subst hK
  intro pins s σ H xs us Q I r h
  obtain ⟨a, d, rfl, hd, sh, q⟩ := h
  cases r with
  | cons r1 r2 =>
    cases r2
    cases (show _ = Value.ref a from r1)
    obtain ⟨as, rd⟩ := Dp.reads I d _ _ hd rfl
    have fits : d.shown.length ≤ sizeLine := by
      have e : PyData.layable0 d = true := by
        show (PyData.canLay0 d && decide (PyData.depth d ≤ 64) && decide (PyData.weight d ≤ 2 ^ 20)) = true
        have h1 := sh.dep
        have h2 := sh.wgt
        rw [sh.lay, decide_eq_true (show PyData.depth d ≤ 64 by omega), decide_eq_true (show PyData.weight d ≤ 2 ^ 20 by omega)]
        rfl
      have z := shown_le13 e sh.sht
      rw [PySem.sizeLine_eq]
      omega
    have dp := sh.dep
    exact PySem.repr_of_reads' rd sh.shw (fun z => by rw [sh.nod] at z; cases z) gd (by omega) (fun _ _ e => e) (fun h' u tk hk => ⟨.str d.shown, H, I.kept (t' := tk) hk, ⟨u, rfl⟩, q⟩) fits
theorem g_repr {K : PySem.W.Frag} {H : Hp} {Q : VK} {a : Addr} {d : PyData} (h : Dp K H (.ref a) d) (sh : Shw d 1000000 60) (q : Q (.str d.shown) H) : rRepr K [.ref a] H Q := ⟨a, d, rfl, h, sh, q⟩
end
/-! #### the end: a law whose def shows lists -/
section
theorem law_callG {P : Program} {w : World} {K : PySem.W.Frag} {mg mb : Str → Option Value} {CX : CXT} {k : Nat} {fa a : Addr} {fd : FuncData} {x : Str} {sp : Sp} {s₁ : Shared} {vs : List Value} {ns : List Int}
    (KX : K.In s₁.heap) (hns : s₁.heap.Ns mainGlobals mg) (hb : s₁.heap.Ns builtinsNs mb) (hbb : ∀ x : Str, x ≠ "__name__" → mb x = bootBuiltins x) (hlim : s₁.heap.NoLimit) (hg : s₁.gens = #[])
    (ha : s₁.heap.get? a = some { cls := .type "list", data := .seq vs.toArray }) (hi : IntsAre vs ns) (hl : ns.length ≤ sizeLine) (hr : Room k callerA)
    (F : ∀ base : Heap, K.In base → base.Ns mainGlobals mg → FnG P w K mg base CX k fa fd [x] sp) (hbind : ∀ (s : Shared) (u : Value), BindsTo s fd ⟨[u], []⟩ [(x, u)])
    (hsp : ∀ H : Hp, Only H → SqL K H a (ns.map V.int) → sp [.ref a] H (fun v _ => v = .bl true) fun _ _ _ => False)
    (hCX : ∀ H e s', CX [] H s₁ (fun _ _ _ => False) e s' → False) :
    codeAny (model P w) callerA (.call (.ref fa) ⟨[.ref a], []⟩) (fun r s' => r = .ok (.ret (.bool true)) ∧ OldK s₁.heap s'.heap ∧ s'.os = s₁.os ∧ AllBare s'.gens) s₁ := by
  classical
  -- what is tracked at the start: the script, where it is not the module's own
  obtain ⟨H, hH⟩ : ∃ H : Hp, H = fun b => if b = a ∧ K.lookup a = none then some (.frz { cls := .type "list", data := .seq vs.toArray } (.lst (ns.map V.int))) else none := ⟨_, rfl⟩
  have at_ : ∀ b u, H b = some u → b = a ∧ K.lookup a = none ∧ u = .frz { cls := .type "list", data := .seq vs.toArray } (.lst (ns.map V.int)) := by
    intro b u e
    rw [hH] at e
    by_cases c : b = a ∧ K.lookup a = none
    · have e' := (if_pos c).symm.trans e
      cases e'
      exact ⟨c.1, c.2, rfl⟩
    · have e' := (if_neg c).symm.trans e
      cases e'
  have only : Only H := by
    intro b
    rcases h : H b with _ | u
    · exact Or.inl rfl
    · obtain ⟨_, _, rfl⟩ := at_ b u h
      exact Or.inr ⟨_, _, rfl⟩
  have nums := vals_ints hi
  have many := hi.length
  have seq : SqL K H a (ns.map V.int) := by
    rcases h : K.lookup a with _ | o
    · refine .inl (.inr ⟨{ cls := .type "list", data := .seq vs.toArray }, ?_⟩)
      rw [hH]
      exact if_pos ⟨rfl, h⟩
    · have e := (KX a o h).symm.trans ha
      cases e
      exact .inr ⟨_, vs.toArray, _, h, rfl, rfl, rfl, by rw [List.size_toArray, many]; exact hl, by simpa using nums⟩
  have hok : HOk P w H s₁.heap := by
    intro b u e
    obtain ⟨rfl, _, rfl⟩ := at_ b u e
    exact ⟨ha, by rw [List.length_map]; exact hl, vs, _, nums, ha⟩
  have keep : ∀ {b o}, s₁.heap.get? b = some o → H b = none → (hidT s₁.heap H).get? b = some o := fun e n => hidT_get e n
  have noDict : ∀ {b : Addr} {o : Obj} {es : Array DictEntry} {ep : Nat}, s₁.heap.get? b = some o → o.data = .dict es ep → H b = none := by
    intro b o es ep e d
    rcases h : H b with _ | u
    · rfl
    · obtain ⟨rfl, _, _⟩ := at_ b u h
      cases ha.symm.trans e
      cases (show Data.seq vs.toArray _ = Data.dict es ep from d)
  have nsB : ∀ {b m}, s₁.heap.Ns b m → (hidT s₁.heap H).Ns b m := by
    rintro b m ⟨o, es, ep, e, d, r⟩
    exact ⟨o, es, ep, keep e (noDict e d), d, r⟩
  have kinB : K.In (hidT s₁.heap H) := by
    intro b o e
    apply keep (KX b o e)
    rcases h : H b with _ | u
    · rfl
    · obtain ⟨rfl, n, _⟩ := at_ b u h
      cases n.symm.trans e
  obtain ⟨mc, lim1, lim2⟩ := hlim
  have md : Mod K mg (hidT s₁.heap H) := ⟨kinB, nsB hns, ⟨mb, nsB hb, hbb⟩, ⟨mc, nsB lim1, lim2⟩⟩
  have e0 : Env0 P w K mg (hidT s₁.heap H) callerA [] s₁ H := ⟨rfl, md, fun b o e => of_hidT e, Nat.le_of_eq (hidT_size _ _), trivial, fun b z => (by cases z), hok, .of_eq hg⟩
  have run := (F _ kinB (nsB hns)).run callerA [] s₁ H ⟨[.ref a], []⟩ [.ref a] [.ref a] _ _ rfl hr e0 (hbind s₁ (.ref a)) (.cons rfl .nil) (hsp H only seq)
  refine codeAny_mono run ?_
  intro r s' z
  match r, z with
  | .error e, z => exact (hCX H e s' z).elim
  | .ok .next, z => exact z.elim
  | .ok .brk, z => exact z.elim
  | .ok .cont, z => exact z.elim
  | .ok (.ret u), z =>
    obtain ⟨v, H', os, bare, un, hok', rv, q⟩ := z
    cases (show v = .bl true from q)
    cases (show u = Value.bool true from rv)
    refine ⟨rfl, OldK.of_keep ?_, os, bare⟩
    intro b o e
    rcases h : H b with _ | u
    · exact un.keep b o e h (fun z => by cases z) (fun z => by cases z)
    · obtain ⟨rfl, _, rfl⟩ := at_ b u h
      have z1 := (hok b _ h).1
      have z2 := (hok' b _ (un.frzs b _ _ h)).1
      cases z1.symm.trans e
      exact z2
theorem walk_ofG {l : PySem.W.OpenLaw} {n k : Nat} {q : Program} {loose : List Str} {XP : (Str → Option Value) → Heap → Prop} {YP : World → Heap → Prop} {d : DefRec} {CX : World → CXT} {x : Str}
    (hn : l.most = some n) (hn2 : n ≤ sizeLine) (hdf : d.params.defaults = []) (hr : Room k callerA)
    (F : ∀ (w : World) (mg : Str → Option Value) (fa : Addr) (h : Heap), YP w h → h.Ns mainGlobals mg → mg d.name = some (.ref fa) → ∃ (K : PySem.W.Frag) (fd : FuncData) (sp : Sp), K.In h ∧ (∀ (s : Shared) (u : Value), BindsTo s fd ⟨[u], []⟩ [(x, u)]) ∧
      (∀ (H : Hp) (a : Addr) (ns : List Int), ns.length ≤ n → Only H → SqL K H a (ns.map V.int) → sp [.ref a] H (fun v _ => v = .bl true) fun _ _ _ => False) ∧ ∀ base : Heap, K.In base → base.Ns mainGlobals mg → FnG l.prog w K mg base (CX w) k fa fd [x] sp)
    (hCX : ∀ (w : World) (H : Hp) (s : Shared) (e : Value) (s' : Shared), CX w [] H s (fun _ _ _ => False) e s' → False) : PySem.W.WalkO q loose XP YP l.row.toRowW d [] (fun f vs => PySem.call f vs) := by
  apply Att.attach_call hn hdf
  intro w s₀ s₁ mg mb fa o pm cd doc a vs ns G Y ho hd hcd hmg hobj hints hlen hg
  obtain ⟨K, fd, sp, kin, hb, hsp, hF⟩ := F w mg fa _ Y G.T.g hmg
  apply law_callG kin G.T.g G.T.b G.T.builtins G.T.nolimit hg hobj hints (Nat.le_trans hlen hn2) hr hF hb
  · exact fun H only seq => hsp H a ns hlen only seq
  · exact fun H e s' z => hCX w H s₁ e s' z
end
end SH
end

section
namespace SH
open PySem PySem.Spec PyProof.Rows L2
/-! ### tuples that bear no dict, told as frozen: their methods can be called -/
def TupN (H : Hp) (p : Addr) (xs : List V) : Prop := ∃ o, H p = some (.frz o (.tup xs)) ∧ o.dict = none
section
variable {K : PySem.W.Frag} {S : List Addr} {H H' : Hp} {p : Addr} {xs : List V}
theorem TupN.sq (h : TupN H p xs) : SqT K H p xs := h.elim fun o h => .inl (.inr ⟨o, h.1⟩)
theorem TupN.off (h : TupN H p xs) (o : Off S H H') : TupN H' p xs := h.elim fun u h => ⟨u, o.frzs _ _ _ h.1, h.2⟩
theorem TupN.live (h : TupN H p xs) : ∃ o, H p = some o := h.elim fun u h => ⟨_, h.1⟩
end
/-- tuple(xs), xs a list: the new tuple's object is told -/
def rTupF (K : PySem.W.Frag) : List V → Hp → VK → Prop := fun xs H Q => ∃ (p : Addr) (ys : List V), xs = [.ref p] ∧ SqL K H p ys ∧ ∀ (l : Addr) (o : Obj), H l = none → o.dict = none → Q (.ref l) (upd H l (.frz o (.tup ys)))
theorem c_tupF {X : Cx} {K : PySem.W.Frag} (hK : X.K = K) : CallR X (.type "tuple") (rTupF K) := by
  subst hK
  intro pins s σ H xs us Q I r h
  obtain ⟨p, ys, rfl, hq, q⟩ := h
  obtain ⟨u, rfl, rx⟩ := vals1 r
  cases rx
  obtain ⟨its, rv, pl, hz⟩ := I.list hq
  have many := rv.length
  apply call_tuple_list pl.isList (hsz := by simp only [List.size_toArray]; omega)
  intro h' keep
  have I1 : Inv X pins σ H { s with heap := h' } := I.kept (t' := s.toks) keep
  have new : (h'.push { cls := .type "tuple", data := .seq its.toArray }).get? h'.objs.size = some { cls := .type "tuple", data := .seq its.toArray } := Heap.get?_push_size _ rfl
  have I2 : Inv X pins σ (upd H h'.objs.size (.frz { cls := .type "tuple", data := .seq its.toArray } (.tup ys))) { s with heap := h'.push { cls := .type "tuple", data := .seq its.toArray } } :=
    I1.laid (t' := s.toks) (fun b o e => Heap.get?_push_of_some _ e) (Nat.le_refl _) (show ObjOk X.prog X.w _ _ _ (.frz _ (.tup ys)) from ⟨new, hz, its, rv, IsTup.new _ _⟩)
  exact ⟨.ref h'.objs.size, _, I2, rfl, q _ _ (I1.hok.fresh (Nat.le_refl _)) rfl⟩
/-- t.index(x), t a tuple of ints -/
def tTupIx (to te : TE) : TE := fun σ H Q => to σ H fun x H1 => (∃ p xs, x = .ref p ∧ TupN H1 p xs) ∧ te σ H1 fun y H2 => ∃ (p : Addr) (ns : List Int) (k : Int), x = .ref p ∧ y = .int k ∧ TupN H2 p (ns.map V.int) ∧ k ∈ ns ∧ Q (.int ((ns.idxOf k : Nat) : Int)) H2
theorem items_ints {A : Around} {s : Shared} {k : Int} {t : Tok} : ∀ {vs : List Value} {ns : List Int}, IntsAre vs ns → SeqAt.ItemsEq A s vs ns (.int k t) k
  | _, _, .nil => ⟨rfl, fun j h => by simp at h⟩
  | _, _, .cons n u r => by
    obtain ⟨l, at_⟩ := items_ints (A := A) (s := s) (k := k) (t := t) r
    refine ⟨by simp [l], fun j h1 h2 => ?_⟩
    cases j with
    | zero => exact SeqAt.EqAt.int_int n u k t
    | succ j => exact at_ j (Nat.lt_of_succ_lt_succ h1) (Nat.lt_of_succ_lt_succ h2)
section
variable {X : Cx} {o e : Expr} {to te : TE} {apos cpos : Pos}
theorem pe_tupIx (ho : PE X o to) (he : PE X e te) (hbase : attributeBase o "index" X.env (eval o X.env) = eval o X.env := by rfl)
    (hfew : ((backTo cpos (starEach [e] X.env)).all (fun x => !x.1) && (backToKw cpos (keywordEach [] X.env)).all (fun x => x.1.isSome)
      && decide ([e].length + ([] : List Keyword).length + (if ([] : List Keyword).isEmpty then 0 else 1) < 30)) = true := by rfl)
    (hline : (apos.endLine == cpos.line) = true := by rfl) (hs : starEach [e] X.env = [(false, eval e X.env)] := by rfl) :
    PE X (.Call (.Attribute o "index" apos) [e] [] cpos) (tTupIx to te) := by
  constructor
  intro pins s σ H Q I h
  apply wpAny_Call_method_late hbase hfew hline rfl
  refine thn (ho.run pins s σ H _ I h) ?_
  rintro v s1 ⟨x, H1, I1, r1, ⟨p, xs, rfl, ob, hp, hd⟩, q1⟩
  cases (show v = Value.ref p from r1)
  obtain ⟨hget, _, its, _, tp⟩ := (I1.hok p _ hp : ObjOk X.prog X.w H1 s1.heap p (.frz ob (.tup xs)))
  have ty : s1.TypeIs (.ref p) "tuple" := by
    obtain ⟨o2, g2, c2, _⟩ := tp
    exact ⟨o2, g2, c2⟩
  refine ⟨"tuple", "tuple.index", PySem.F.plainAttrs_tuple, PySem.F.slot_tuple_index, PySem.F.type_tuple_index, ty, ?_, ?_⟩
  · intro a ea
    cases ea
    exact ⟨ob, hget, hd⟩
  · rw [hs]
    apply Calls.callWith_builtin rfl
    apply Calls.evalArgs_plain
    refine Calls.spliced_cons (thn (he.run pins s1 σ H1 _ I1 q1) ?_)
    rintro w1 s2 ⟨y, H2, I2, r2, p2, ns, k, ep, rfl, ht, hk, q2⟩
    cases ep
    obtain ⟨t, rfl⟩ := r2
    apply Calls.spliced_nil
    obtain ⟨its2, rv, pl, _⟩ := I2.tuple (TupN.sq ht)
    exact SeqAt.call_tuple_index pl (items_ints (Vals.ints rv)) hk ⟨.int _, H2, I2.tok _, ⟨_, rfl⟩, q2⟩
end
section
variable {K : PySem.W.Frag} {σ : L2.St} {H : Hp} {Q : VK} {to te : TE} {p : Addr} {ns : List Int} {k : Int} {xs : List V}
def tupIx2 (x : V) (Q : VK) (y : V) (H2 : Hp) : Prop := ∃ (p : Addr) (ns : List Int) (k : Int), x = .ref p ∧ y = .int k ∧ TupN H2 p (ns.map V.int) ∧ k ∈ ns ∧ Q (.int ((ns.idxOf k : Nat) : Int)) H2
def tupIx1 (te : TE) (σ : L2.St) (Q : VK) (x : V) (H1 : Hp) : Prop := (∃ p xs, x = .ref p ∧ TupN H1 p xs) ∧ te σ H1 (tupIx2 x Q)
theorem g_tupIx (q : to σ H (tupIx1 te σ Q)) : tTupIx to te σ H Q := q
theorem g_tupIx1 (h : TupN H p xs) (q : te σ H (tupIx2 (.ref p) Q)) : tupIx1 te σ Q (.ref p) H := ⟨⟨p, xs, rfl, h⟩, q⟩
theorem g_tupIx2 (h : TupN H p (ns.map V.int)) (hk : k ∈ ns) (q : Q (.int ((ns.idxOf k : Nat) : Int)) H) : tupIx2 (.ref p) Q (.int k) H := ⟨p, ns, k, rfl, rfl, h, hk, q⟩
theorem g_tupF (h : SqL K H p xs) (q : ∀ l H', H l = none → TupN H' l xs → Off [] H H' → Q (.ref l) H') : rTupF K [.ref p] H Q :=
  ⟨p, xs, rfl, h, fun l o hl hd => q l _ hl ⟨o, upd_same, hd⟩ (.new hl)⟩
end
end SH
end

section
namespace SH
open PySem PySem.Spec PyProof.Rows L2
/-! ### enumerate(t), t a tuple -/
def IteT (K : PySem.W.Frag) (a : Addr) : It :=
  ⟨fun i H => ∃ (xs : List V) (x : V), SqT K H a xs ∧ xs[i]? = some x, fun i H v H' => ∃ T x, v = .ref T ∧ H T = none ∧ H' = upd H T (.tup [.int (i : Nat), x]) ∧ ∀ xs, SqT K H a xs → xs[i]? = some x, fun i H => ∃ xs : List V, SqT K H a xs ∧ xs.length ≤ i⟩
set_option maxHeartbeats 1000000 in
theorem meets_enum1 {v : Value} {o : Obj} {H : Heap → Prop} (B : Begins v o H) :
    Meets (Builtin.«enumerate.__new__» ⟨[.type "enumerate", v], []⟩) (fun _ R s => H s.heap ∧ R (.ok (.ret (.ref (s.heap.push o).objs.size))) { s with heap := (s.heap.push o).push { cls := .type "enumerate", data := .fields #[.none, .bool false, .ref s.heap.objs.size, rawInt 0, .none, .none] } }) := by
  apply Meets.of_wp
  intro prog w A R s hh
  obtain ⟨hp, g, d, tk, os⟩ := s
  obtain ⟨hv, hr⟩ := hh
  have hsub := sub_enumerate
  have go : ∀ {A' : Around} {E : Value → Shared → Prop} {Q : Value → Shared → Prop}, Q (.ref hp.objs.size) ⟨hp.push o, g, d, tk, os⟩ → wpAny (model prog w) A' (pyIter v) Q E ⟨hp, g, d, tk, os⟩ := fun q => B.iter _ _ _ _ ⟨hp, g, d, tk, os⟩ _ hv q
  wp_walk using go
  refine wpAny_stack_any fun st => wpAny_pure ?_
  split
  · rename_i c _ _ _ _ _
    cases (c == Value.type "enumerate") <;> (wp_walk using go; exact ⟨_, rfl, hr⟩)
  · wp_walk using go
    exact ⟨_, rfl, hr⟩
theorem turn_enumT {P : Program} {w : World} {K : PySem.W.Frag} {elts : List Expr} {kk : Nat} {tpos : Pos} (a e it : Addr) (ne : e ≠ it) (na : e ≠ a) (ni : a ≠ it) :
    Turn P w K (.Tuple elts kk tpos) (IteT K a) [e, it] e (fun i h => (∃ old, IsEnum h e it ((i : Nat) : Int) old) ∧ h.IsTupleIter it a i) where
  mem := by simp
  obj := by
    rintro i h ⟨⟨old, he⟩, o, ho, hc, hd⟩ b hb
    simp only [List.mem_cons, List.not_mem_nil, or_false] at hb
    rcases hb with rfl | rfl
    · exact ⟨_, he, fun v z => nomatch z⟩
    · exact ⟨o, ho, fun v z => by rw [hd] at z; cases z⟩
  keep := by
    rintro i h h' ⟨⟨old, he⟩, hi⟩ k
    exact ⟨⟨old, k e (by simp) _ he⟩, hi.at fun o z => k it (by simp) o z⟩
  item := by
    intro X hP hw hK hc i pins s σ H E I hf st hg
    subst hP hw hK
    obtain ⟨⟨old, he⟩, hit⟩ := st
    obtain ⟨xs, x, hq, hx⟩ := hg
    obtain ⟨its, rv, p, hz⟩ := I.tuple hq
    obtain ⟨u, hu, ru⟩ := rv.get hx
    have le := Heap.lt_size he
    have li : it < s.heap.objs.size := by
      obtain ⟨_, z, _⟩ := hit
      exact Heap.lt_size z
    have D := Draws.tuple (prog := X.prog) (w := X.w) (A := X.A.in1) (I.ok.hd hc) it a ni its.toArray
    have lt : i < its.toArray.size := by
      have := (List.getElem?_eq_some_iff.mp hu).1
      simpa using this
    apply wpAny_pyNext_enum_itemD D he ⟨hit, p⟩ lt ne (by simp [ne, na])
    intro y h' tk hy ho st' hT hsz hk
    have ey : y = u := by
      have z : its.toArray[i]? = some y := hy
      rw [List.getElem?_toArray, hu] at z
      exact (Option.some.inj z).symm
    subst ey
    refine ⟨_, rfl, wpAny_letOwnedTupleGo_enum (s := { s with heap := h', toks := tk + 1 }) ho ?_⟩
    intro h'' he' sb
    have hT2 := (sb.2 _ (Nat.ne_of_gt le)).trans hT
    have ob : ObjOk X.prog X.w (upd H s.heap.objs.size (.tup [.int (i : Nat), x])) h'' s.heap.objs.size (.tup [.int (i : Nat), x]) := by
      refine ⟨by show 2 ≤ sizeLine; decide, [.int i tk, y], .cons ⟨_, rfl⟩ (.cons ru .nil), ⟨_, hT2, rfl, _, rfl⟩⟩
    have still : ∀ b o, b ∉ [e, it] → s.heap.get? b = some o → h''.get? b = some o := by
      intro b o hb z
      simp only [List.mem_cons, List.not_mem_nil, or_false, not_or] at hb
      exact (sb.2 b hb.1).trans (hk b o hb.1 hb.2 z)
    have I1 : Inv X pins σ (upd H s.heap.objs.size (.tup [.int (i : Nat), x])) { s with heap := h'', toks := tk + 1 } := I.turnedNew (ch := [e, it]) still hf (Nat.le_refl _) ob
    refine ⟨.ref s.heap.objs.size, _, I1, rfl, ⟨_, x, rfl, I.hok.fresh (Nat.le_refl _), rfl, fun ys hy => by rw [I.tuple_inj hy hq]; exact hx⟩, ⟨⟨y, ?_⟩, st'.1.at fun o z => (sb.2 it (Ne.symm ne)).trans z⟩, ?_⟩
    · rw [show ((i + 1 : Nat) : Int) = (i : Int) + 1 by omega]
      exact he'
    · intro b hb
      have lb : b < s.heap.objs.size := by
        simp only [List.mem_cons, List.not_mem_nil, or_false] at hb
        rcases hb with rfl | rfl
        · exact le
        · exact li
      rw [upd_ne (Nat.ne_of_lt lb)]
      exact (hf b hb).1
  done := by
    intro X hP hw hK hc i pins s σ H E I hf st hg
    subst hP hw hK
    obtain ⟨⟨old, he⟩, hit⟩ := st
    obtain ⟨xs, hq, hx⟩ := hg
    obtain ⟨its, rv, p, hz⟩ := I.tuple hq
    obtain ⟨f0, f1, f2, f3, f4, f5⟩ := hf it (by simp)
    have hl := rv.length
    have D' : Draws X.prog X.w X.A.in1 it [it, a] i (fun i v => its.toArray[i]? = some v) (fun j h => j = i ∧ h.IsTupleIter it a j ∧ h.IsTuple a its.toArray) :=
      { live := fun j h st => by
          obtain ⟨_, ⟨o, ho, _⟩, _⟩ := st
          exact ⟨o, ho⟩
        frame := fun j h h' st k => ⟨st.1, st.2.1.at fun o z => k it (by simp) o z, st.2.2.at fun o z => k a (by simp) o z⟩
        item := fun j s Q E hj st => by
          have := st.1
          omega
        done := fun s Q E st hE => wpAny_nextOf_tuple_end (I.ok.hd hc) st.2.1 st.2.2 (by simp; omega) hE }
    apply wpAny_pyNext_enum_endD D' he ⟨rfl, hit, p⟩
    intro h' eb
    exact ⟨rfl, I.turned (t' := s.toks) (fun b o hb z => eb b o hb z) f0 f1 f3 f4 f5⟩
  self := by
    rintro A i s Q E ⟨⟨_, he⟩, _⟩ h
    exact wpAny_pyIter_enum he h
def iEnumT (K : PySem.W.Frag) (ta : TA) : TI := fun σ H R => ta σ H fun vs H1 => ∃ a xs, vs = [.ref a] ∧ SqT K H1 a xs ∧ R (IteT K a) H1
theorem pi_enumT {X : Cx} {K : PySem.W.Frag} {e : Expr} {ta : TA} {p pos tpos : Pos} {elts : List Expr} {kk : Nat} (hK : X.K = K) (hg : Gl X "enumerate") (hm : X.mg "enumerate" = none) (ha : PA X [e] ta) (hs : starEach [e] X.env = [(false, eval e X.env)] := by rfl) :
    PI X (.Tuple elts kk tpos) (.Call (.Name "enumerate" p) [e] [] pos) (iEnumT K ta) := by
  subst hK
  constructor
  intro pins s σ H R I h
  refine Call_ (ld_blt I hg hm boot_enumerate (PyProof.Rows.callWith_type1 (thn (ha.run pos pins s σ H _ I h) ?_) hs rfl))
  rintro us s1 ⟨vs, H1, I1, r1, a, xs, rfl, hq, q⟩
  obtain ⟨u, rfl, rv⟩ := vals1 r1
  cases rv
  obtain ⟨its, rv, tp, hz⟩ := I1.tuple hq
  have la : a < s1.heap.objs.size := by
    obtain ⟨_, z, _⟩ := tp
    exact Heap.lt_size z
  have B := begins_tuple a its.toArray
  refine callType_new F.called_enumerate (by decide) (F.typeCall_enumerate_1 _) (F.newCall_enumerate_1 _) (fun obj => F.args_object_init_2 obj _) F.entry_enumerate_new (meets_enum1 B) ⟨tp, ?_⟩
  generalize hO : ({ cls := .type "tuple_iterator", data := .fields #[.ref a, .int 0 0] } : Obj) = O
  have z1 : (s1.heap.push O).objs.size = s1.heap.objs.size + 1 := Heap.size_push ..
  show _ ∧ _
  rw [z1]
  have he : IsEnum ((s1.heap.push O).push { cls := .type "enumerate", data := .fields #[.none, .bool false, .ref s1.heap.objs.size, rawInt 0, .none, .none] }) (s1.heap.objs.size + 1) s1.heap.objs.size 0 .none := by
    have z := Heap.get?_push_size (s1.heap.push O) (o := { cls := .type "enumerate", data := .fields #[.none, .bool false, .ref s1.heap.objs.size, rawInt 0, .none, .none] }) rfl
    rw [z1] at z
    exact z
  have hi : ((s1.heap.push O).push { cls := .type "enumerate", data := .fields #[.none, .bool false, .ref s1.heap.objs.size, rawInt 0, .none, .none] }).IsTupleIter s1.heap.objs.size a 0 := by
    refine ⟨O, Heap.get?_push_of_some _ (Heap.get?_push_size _ (by rw [← hO]; rfl)), by rw [← hO], by rw [← hO]; rfl⟩
  refine ⟨⟨_, he, rfl⟩, wpAny_pyIter_enum he ?_⟩
  have I2 := I1.kept (t' := s1.toks) (h' := (s1.heap.push O).push { cls := .type "enumerate", data := .fields #[.none, .bool false, .ref s1.heap.objs.size, rawInt 0, .none, .none] }) fun b o z => Heap.get?_push_of_some _ (Heap.get?_push_of_some _ z)
  refine ⟨s1.heap.objs.size + 1, [s1.heap.objs.size + 1, s1.heap.objs.size], _, _, H1, rfl, I2, turn_enumT a (s1.heap.objs.size + 1) s1.heap.objs.size (Nat.succ_ne_self _) (Nat.ne_of_gt (Nat.lt_succ_of_lt la)) (Nat.ne_of_lt la), ⟨⟨.none, he⟩, hi⟩, ?_, q⟩
  intro b hb
  have lb : s1.heap.objs.size ≤ b := by
    simp only [List.mem_cons, List.not_mem_nil, or_false] at hb
    rcases hb with rfl | rfl
    · exact Nat.le_succ _
    · exact Nat.le_refl _
  exact I1.fpOk lb (I1.hok.fresh lb)
/-- a walk over pairs (i, x) -/
def forE (J : It) (g : TG) (tb : TS) (D : Ends) (σ : L2.St) (H : Hp) : Prop := forJ g tb D σ J H
section
variable {K : PySem.W.Frag} {σ : L2.St} {H : Hp} {tA : TA} {a : Addr} {xs : List V} {N : L2.St → Hp → Prop} {R : VK} {Bk Ct : L2.St → Hp → Prop} {s1 : TS} {gt : TG}
def enT (K : PySem.W.Frag) (gt : TG) (s1 : TS) (D : Ends) (σ : L2.St) (vs : List V) (H1 : Hp) : Prop := ∃ a xs, vs = [.ref a] ∧ SqT K H1 a xs ∧ forJ gt s1 D σ (IteT K a) H1
def enL (K : PySem.W.Frag) (gt : TG) (s1 : TS) (D : Ends) (σ : L2.St) (vs : List V) (H1 : Hp) : Prop := ∃ a xs, vs = [.ref a] ∧ SqL K H1 a xs ∧ forJ gt s1 D σ (Ite K a) H1
theorem g_enT (q : tA σ H (enT K gt s1 ⟨N, R, Bk, Ct⟩ σ)) : tFor (iEnumT K tA) gt s1 ⟨N, R, Bk, Ct⟩ σ H := q
theorem g_enL (q : tA σ H (enL K gt s1 ⟨N, R, Bk, Ct⟩ σ)) : tFor (iEnum K tA) gt s1 ⟨N, R, Bk, Ct⟩ σ H := q
theorem enT_mk (Pv : Nat → L2.St → Hp → Prop) (hx : SqT K H a xs) (h0 : Pv 0 σ H) (hl : ∀ i σ H, i ≤ xs.length → Pv i σ H → SqT K H a xs)
    (hs : ∀ i x T σ H, xs[i]? = some x → Pv i σ H → H T = none → gt (.ref T) σ (upd H T (.tup [.int (i : Nat), x])) fun σ2 H2 => s1 ⟨Pv (i + 1), R, N, Pv (i + 1)⟩ σ2 H2) (hd : ∀ σ H, Pv xs.length σ H → N σ H) : enT K gt s1 ⟨N, R, Bk, Ct⟩ σ [.ref a] H := by
  refine ⟨a, xs, rfl, hx, fun i m σ H => m = xs.length - i ∧ i ≤ xs.length ∧ Pv i σ H, ⟨xs.length, by simp, Nat.zero_le _, h0⟩, ?_⟩
  rintro i m σ H ⟨rfl, hi, p⟩
  have q := hl i σ H hi p
  by_cases c : i < xs.length
  · refine .inr ⟨⟨xs, xs[i], q, List.getElem?_eq_getElem c⟩, Pv (i + 1), fun σ' H' p' => ⟨xs.length - (i + 1), by omega, rfl, c, p'⟩, ?_⟩
    rintro v H' ⟨T, x, rfl, hT, rfl, hx'⟩
    exact hs i x T σ H (hx' xs q) p hT
  · have e : i = xs.length := by omega
    subst e
    exact .inl ⟨⟨xs, q, Nat.le_refl _⟩, hd σ H p⟩
theorem enL_mk (Pv : Nat → L2.St → Hp → Prop) (hx : SqL K H a xs) (h0 : Pv 0 σ H) (hl : ∀ i σ H, i ≤ xs.length → Pv i σ H → SqL K H a xs)
    (hs : ∀ i x T σ H, xs[i]? = some x → Pv i σ H → H T = none → gt (.ref T) σ (upd H T (.tup [.int (i : Nat), x])) fun σ2 H2 => s1 ⟨Pv (i + 1), R, N, Pv (i + 1)⟩ σ2 H2) (hd : ∀ σ H, Pv xs.length σ H → N σ H) : enL K gt s1 ⟨N, R, Bk, Ct⟩ σ [.ref a] H := by
  refine ⟨a, xs, rfl, hx, fun i m σ H => m = xs.length - i ∧ i ≤ xs.length ∧ Pv i σ H, ⟨xs.length, by simp, Nat.zero_le _, h0⟩, ?_⟩
  rintro i m σ H ⟨rfl, hi, p⟩
  have q := hl i σ H hi p
  by_cases c : i < xs.length
  · refine .inr ⟨⟨xs, xs[i], q, List.getElem?_eq_getElem c⟩, Pv (i + 1), fun σ' H' p' => ⟨xs.length - (i + 1), by omega, rfl, c, p'⟩, ?_⟩
    rintro v H' ⟨T, x, rfl, hT, rfl, hx'⟩
    exact hs i x T σ H (hx' xs q) p hT
  · have e : i = xs.length := by omega
    subst e
    exact .inl ⟨⟨xs, q, Nat.le_refl _⟩, hd σ H p⟩
end
end SH
end

section
namespace SH
open PySem PySem.Spec PyProof.Rows L2
theorem Off.mutA {S : List Addr} {H H1 H2 : Hp} {a : Addr} (x : Off S H H1) (o : Off [a] H1 H2) (h : H a = none) : Off S H H2 :=
  ⟨fun b u n e => o.keep b u (by simpa using ne_of_none e h) (x.keep b u n e), fun b u e => o.tups b u (x.tups b u e), fun b u v e => o.frzs b u v (x.frzs b u v e), fun b u e => by
    obtain ⟨o', e'⟩ := x.live b u e
    exact o.live b o' e'⟩
theorem Off.muts {S U : List Addr} {H H1 H2 : Hp} (x : Off S H H1) (o : Off U H1 H2) (h : ∀ u ∈ U, u ∈ S ∨ H u = none) : Off S H H2 :=
  ⟨fun b u n e => o.keep b u (fun z => (h b z).elim n fun hn => by rw [hn] at e; cases e) (x.keep b u n e), fun b u e => o.tups b u (x.tups b u e), fun b u v e => o.frzs b u v (x.frzs b u v e), fun b u e => by
    obtain ⟨o', e'⟩ := x.live b u e
    exact o.live b o' e'⟩
/-! ### calls by names of parameters -/
def DefL (P : Program) (w : World) (K : PySem.W.Frag) (mg : Str → Option Value) (base : Heap) (x : Str) (k : Nat) (ps : List Str) (sp : Sp) : Prop :=
  ∃ f fd, FnOk P w K mg base (L2N.CX P w) k f fd ps sp ∧ mg x = some (.ref f) ∧ PySem.W.keepIn K (.ref f) = true ∧ Binds K fd ps [] ∧ ∃ oc od osl, K.lookup f = some ⟨oc, od, .func fd, osl⟩
section
variable {P : Program} {w : World} {K : PySem.W.Frag} {mg : Str → Option Value} {base : Heap} {x : Str} {st : Stmt} {N ps : List Str} {k : Nat} {sp : Sp}
theorem DefL.ok (D : DefL P w K mg base x k ps sp) : DefOk P w K mg base x k ps sp := by
  obtain ⟨f, fd, h1, h2, h3, h4, _⟩ := D
  exact ⟨f, fd, h1, h2, h3, h4⟩
theorem TopD.okL (T : TopD K mg x st) (S : FnScope N ps (defScope st))
    (hb : ∀ (kV doc pm : Value) (an : Option Addr) (cdv ct : Value) (us : List Value), us.length = ps.length → bindArgs (PySem.W.fnOf x x (defArgs st) (defBody st) (defScope st) .none kV doc pm an cdv ct) ⟨us, []⟩ = pure (ps.zip us))
    (len : ∀ vs H Q E, sp vs H Q E → vs.length = ps.length)
    (hbody : ∀ (f : Addr) (cdv : Value) (A : Around) (outer : List Env) (s : Shared) (H : Hp) (vs : List V) (Q : VK) (E : XK), Room k (A.deeper (envOfC x (defScope st) s.heap.objs.size f cdv)) → sp vs H Q E →
      ∃ t, PSs (cxOf (L2N.CX P w) P w K mg base N x (defScope st) f cdv A outer s H E) (defBody st) t ∧ t { nx := fun _ H' => Q .non H', rt := Q } (start N vs) H) : DefL P w K mg base x (k + 1) ps sp := by
  obtain ⟨f, fd, F, hm⟩ := T
  obtain ⟨oc, od, dV, kV, doc, pm, an, cdv, ct, osl, _, lk, _, _, _⟩ := F.ex
  exact ⟨f, fd, F.ok S len fun cdv A outer s H vs Q E hr h => hbody f cdv A outer s H vs Q E hr h, hm, F.kp, F.bindsN hb, oc, od, osl, lk⟩
end
def kwR (n : Nat) (gV : List V → List V) (sp : Sp) (E : XK) (Q : VK) (zs : List V) (H2 : Hp) : Prop := zs.length = n ∧ sp (gV zs) H2 Q E
def tCallKw (n : Nat) (gV : List V → List V) (sp : Sp) (E : XK) (tk : TA) : TE := fun σ H Q => tk σ H (kwR n gV sp E Q)
theorem pe_dfK0 {X : Cx} {x : Str} {k : Nat} {ps : List Str} {sp : Sp} {E : XK} {st : Stmt} {p pos : Pos} {kws : List Keyword} {tk : TA} {ks : List Str} {g : List Value → List Value} {gV : List V → List V} (D : DefL X.prog X.w X.K X.mg X.base x k ps sp) (T : TopD X.K X.mg x st)
    (hb : ∀ (kV doc pm : Value) (an : Option Addr) (cdv ct : Value) (us : List Value), us.length = ks.length → bindArgs (PySem.W.fnOf x x (defArgs st) (defBody st) (defScope st) .none kV doc pm an cdv ct) ⟨[], ks.zip us⟩ = pure (ps.zip (g us)))
    (hrel : ∀ {vs : List V} {us : List Value}, Vals vs us → vs.length = ks.length → Vals (gV vs) (g us)) (hr : Room k X.A) (hx : Passes (L2N.CX X.prog X.w) X E) (hkw : PK X kws tk) (hg : Gl X x := by rfl)
    (hall : (backToKw pos (keywordEach kws X.env)).all (·.1.isSome) = true := by rfl) (hks : (backToKw pos (keywordEach kws X.env)).filterMap (·.1) = ks := by rfl) (hdb : (x == ("__debug__" : Str)) = false := by decide)
    (hpl : ((backTo pos (starEach [] X.env)).any (·.1) || (backToKw pos (keywordEach kws X.env)).any (·.1.isNone)) = false := by rfl) : PE X (.Call (.Name x p) [] kws pos) (tCallKw ks.length gV sp E tk) := by
  obtain ⟨f, fd, F, hm, hk, _, oc, od, osl, lk⟩ := D
  obtain ⟨f', fd', FD, hm'⟩ := T
  cases hm.symm.trans hm'
  obtain ⟨oc', od', dV, kV, doc, pm, an, cdv, ct, osl', rfl, lk', _, hD, _⟩ := FD.ex
  cases lk.symm.trans lk'
  rcases hD with ⟨_, rfl⟩ | ⟨e, _⟩
  · constructor
    intro pins s σ H Q I h
    apply wpAny_Call_Name_kw (ld_glob I hg hm ?_ hdb)
    apply PySem.W.callWith_KW0 (h₀ := X.base) I.ok.mod.kin hk hall ?_ hpl
    refine thn (hkw.run pos pins s σ H _ I h) ?_
    rintro ws s2 ⟨zs, H2, I2, rz, l, q⟩
    refine ⟨I2.kIn, ?_⟩
    rw [hks]
    have bd := BindsTo.of_eq (s := s2) (hb kV doc pm an cdv ct ws (rz.length.symm.trans l))
    have run := F.run X.A X.stack s2 H2 ⟨[], ks.zip ws⟩ (g ws) (gV zs) Q E hr I2.env0 bd (hrel rz l) q
    refine wpAny_call (codeAny_mono run ?_)
    intro res s3 z
    match res, z with
    | .error er, z => exact hx pins σ H2 s2 er s3 I2 z
    | .ok (.ret u), z => exact I2.after z
    | .ok .next, z => exact z.elim
    | .ok .brk, z => exact z.elim
    | .ok .cont, z => exact z.elim
  · exact absurd rfl e
theorem pi_enumK {X : Cx} {K : PySem.W.Frag} {e : Expr} {ta : TA} {p pos tpos : Pos} {elts : List Expr} {kk : Nat} (hK : X.K = K) (hg : Gl X "enumerate") (hm : X.mg "enumerate" = none) (ha : PA X [e] ta) (hs : starEach [e] X.env = [(false, eval e X.env)] := by rfl) :
    PI X (.Tuple elts kk tpos) (.Call (.Name "enumerate" p) [e] [] pos) (iEnum K ta) := by
  subst hK
  exact pi_enum hg hm ha hs
theorem br_int {c : Prop} [Decidable c] {i j : Int} {σ : L2.St} {H : Hp} {k : VK} (q : k (.int (if c then i else j)) H) : br (decide c) (tC (.int i) σ H k) (tC (.int j) σ H k) :=
  br_d (fun h => by rw [if_pos h] at q; exact q) (fun h => by rw [if_neg h] at q; exact q)
def sw {α : Type} : List α → List α
  | [a, b] => [b, a]
  | l => l
theorem rel_id {vs : List V} {us : List Value} {n : Nat} (r : Vals vs us) (_ : vs.length = n) : Vals (id vs) (id us) := r
theorem rel_sw {vs : List V} {us : List Value} {n : Nat} (r : Vals vs us) (_ : vs.length = n) : Vals (sw vs) (sw us) := by
  match vs, us, r with
  | [], _, .nil => exact .nil
  | [_], _, .cons r .nil => exact .cons r .nil
  | [_, _], _, .cons r (.cons r2 .nil) => exact .cons r2 (.cons r .nil)
  | _ :: _ :: _ :: _, _, .cons r (.cons r2 (.cons r3 t)) => exact .cons r (.cons r2 (.cons r3 t))
section
variable {σ : L2.St} {H : Hp} {Q : VK} {sp : Sp} {E : XK} {tk : TA} {n : Nat} {gV : List V → List V} {zs : List V}
theorem g_kw (q : tk σ H (kwR n gV sp E Q)) : tCallKw n gV sp E tk σ H Q := q
theorem g_kwR (h : zs.length = n) (q : sp (gV zs) H Q E) : kwR n gV sp E Q zs H := ⟨h, q⟩
end
end SH
end

section
namespace SH
open PySem PySem.Spec PyProof.Rows L2
/-! ### own ==, and != by it; methods and makers called by keywords -/
section
variable {M : Model} {prog : Program} {w : World} {A : Around} {E : Value → Shared → Prop} {s : Shared} {K : PySem.W.Frag} {x C f L : Addr} {ox : Obj} {od : Option Obj} {h₀ : Heap} {m : Str → Option Value} {b tb : Value}
theorem ifBound_objNe {args : List Value} {Q : Option Value → Shared → Prop} (X : K.In s.heap) (I : PySem.W.InstAt s.heap x ox C od) (hs : PySem.W.findIn K (.ref C) "__ne__" = some (some (.builtin "object.__ne__")))
    (h : wpAny M A (call (.builtin "object.__ne__") (.ref x :: args)) (fun v => Q (some v)) E s) : wpAny M A (callSpecialIfBound? (.ref x) "__ne__" args) Q E s := by
  simp only [callSpecialIfBound?, bindSpecialIfBound?]
  refine wpAny_holding (wpAny_bind (wpAny_bind (wpAny_bind (I.type.here ((PySem.W.looks_findIn X hs).here ?_)))))
  apply wpAny_bind
  apply wpAny_askSetting
  apply wpAny_ite
  have last : wpAny M A (call (.builtin "object.__ne__") ([.ref x] ++ args) >>= fun v => pure (some v)) Q E s := by
    apply wpAny_bind
    exact wpAny_mono h (fun _ _ z => wpAny_pure z) fun _ _ z => z
  have nb := F.cmp_object.ne.bind (.ref x)
  split
  · apply wpAny_bind
    exact wpAny_of_eq nb (wpAny_pure last)
  · apply wpAny_tryCatch
    apply wpAny_bind
    exact wpAny_of_eq nb (wpAny_pure last)
theorem entry_objNe {Q : Fin → Shared → Prop} (hu : A.units < cLine) (X : K.In s.heap) (I : PySem.W.InstAt s.heap x ox C od) (he : PySem.W.findIn K (.ref C) "__eq__" = some (some (.ref f))) (hf : PySem.W.isFn K (.ref f) = true)
    (h : wpAny (model prog w) A (call (.ref f) [.ref x, b]) (fun v s' => ∃ r, v = .bool r ∧ Q (.done (.ret (.bool (!r)))) s') E s) : wpAny (model prog w) A (Builtin.«object.__ne__» ⟨[.ref x, b], []⟩) Q E s := by
  unfold Builtin.«object.__ne__»
  repeat (first
    | with_reducible refine wpAny_cRoomFor hu ?_
    | (refine wpAny_bind (m := callSpecialIfBound? (.ref x) (Str.ofString "__eq__") [b]) (PySem.W.ifBound_K X I he hf (wpAny_mono h ?_ fun _ _ e => e))
       rintro v s' ⟨r, rfl, hq⟩
       repeat (first | exact hq | exact wpAny_pure hq | exact wpAny_truthy_bool hq | (refine wpAny_bind (m := truthy (.bool _)) (wpAny_truthy_bool ?_)) | wp_step))
    | wp_step)
theorem cmpNe_K {Q : Value → Shared → Prop} (hu : A.units + 1 < cLine) (F0 : Fr h₀ L s.heap m) (X₀ : K.In h₀) (I : PySem.W.InstAt s.heap x ox C od) (hb : PySem.W.Looks (model prog w) s.heap (typeOf b) tb) (hn : PySem.W.notFirst K C tb = true)
    (hne : PySem.W.findIn K (.ref C) "__ne__" = some (some (.builtin "object.__ne__"))) (hm : PySem.W.mroIn K C (.type "object") = some true) (he : PySem.W.findIn K (.ref C) "__eq__" = some (some (.ref f))) (hf : PySem.W.isFn K (.ref f) = true)
    (h : wpAny (model prog w) A.in1 (call (.ref f) [.ref x, b]) (fun v s' => ∃ r, v = .bool r ∧ Q (.bool (!r)) s') E s) : wpAny (model prog w) A (richCompare .NotEq (.ref x) b) Q E s := by
  have X := X₀.keeps F0.keep
  have one : wpAny (model prog w) A (tryCompare (.ref x) "__ne__" b) (fun r s' => ∃ v, r = some v ∧ Q v s') E s := by
    unfold tryCompare
    refine wpAny_bind (ifBound_objNe X I hne ?_)
    refine wpAny_call (codeAny_call_builtin F.cmp_object.ne.plain F.cmpEntry_ne (PySem.W.check_slot F.cmpKind_ne F.cmpSplit_ne (I.type.andThen (PySem.W.looks_mroIn X hm)) (F.cmpArgs_ne _ _) ?_))
    refine entry_objNe hu X I he hf (wpAny_mono h ?_ fun _ _ e => e)
    rintro v s' ⟨r, rfl, hq⟩
    exact ⟨r, rfl, wpAny_pure ⟨_, rfl, hq⟩⟩
  unfold richCompare
  simp only [oneThing_ref]
  refine wpAny_holding (wpAny_bind (wpAny_cRoomFor (Nat.lt_of_succ_lt hu) ?_))
  rw [cmpInfo_NotEq]
  dsimp only
  refine wpAny_bind (I.type.here (wpAny_bind (hb.here ?_)))
  have fin : ∀ rr, wpAny (model prog w) A rr (fun r s' => ∃ v, r = some v ∧ Q v s') E s → True := fun _ _ => trivial
  split
  · rename_i q
    have e : PySem.W.subIn K tb (.ref C) = some false := by
      rcases Bool.or_eq_true_iff.mp hn with e | e
      · rw [beq_iff_eq.mp e] at q; simp at q
      · exact beq_iff_eq.mp e
    refine wpAny_bind ((PySem.W.looks_subIn X e).here ?_)
    simp only [Bool.false_eq_true, if_false]
    refine wpAny_bind (wpAny_mono one ?_ fun _ _ e => e)
    rintro r s' ⟨v, rfl, hq⟩
    exact wpAny_pure hq
  · refine wpAny_bind (wpAny_pure ?_)
    simp only [Bool.false_eq_true, if_false]
    refine wpAny_bind (wpAny_mono one ?_ fun _ _ e => e)
    rintro r s' ⟨v, rfl, hq⟩
    exact wpAny_pure hq
end
/-- what != by an own == asks of the class -/
structure NeOk (K : PySem.W.Frag) (C : Addr) : Prop where
  ne : PySem.W.findIn K (.ref C) "__ne__" = some (some (.builtin "object.__ne__"))
  mo : PySem.W.mroIn K C (.type "object") = some true
def neB (K : PySem.W.Frag) (C : Addr) : Bool := decide (PySem.W.findIn K (.ref C) "__ne__" = some (some (.builtin "object.__ne__"))) && decide (PySem.W.mroIn K C (.type "object") = some true)
theorem neB_ok {K : PySem.W.Frag} {C : Addr} (h : neB K C = true) : NeOk K C := by
  unfold neB at h
  rw [Bool.and_eq_true] at h
  exact ⟨of_decide_eq_true h.1, of_decide_eq_true h.2⟩
/-- the other side: of the same class, or None -/
def Oth (H : Hp) (C : Addr) (y : V) : Prop := y = .non ∨ ∃ b dy gs, y = .ref b ∧ H b = some (.ins C dy gs)
def rOwnE (C : Addr) (sp : Sp) (E : XK) : R2 := fun x y H Q => ∃ a dx fs, x = .ref a ∧ H a = some (.ins C dx fs) ∧ Oth H C y ∧ sp [x, y] H (fun v H' => ∃ b, v = .bl b ∧ Q (.bl b) H') E
def rOwnN (C : Addr) (sp : Sp) (E : XK) : R2 := fun x y H Q => ∃ a dx fs, x = .ref a ∧ H a = some (.ins C dx fs) ∧ Oth H C y ∧ sp [x, y] H (fun v H' => ∃ b, v = .bl b ∧ Q (.bl (!b)) H') E
section
variable {X : Cx} {C : Addr} {k : Nat} {ps : List Str} {sp : Sp} {E : XK}
theorem oth_looks {pins : List (Addr × Obj)} {σ : L2.St} {H : Hp} {s : Shared} {y : V} {u : Value} (I : Inv X pins σ H s) (r : RelV y u) (h : Oth H C y) : ∃ tb, PySem.W.Looks (model X.prog X.w) s.heap (typeOf u) tb ∧ PySem.W.notFirst X.K C tb = true := by
  rcases h with rfl | ⟨b, dy, gs, rfl, hb⟩
  · cases r
    refine ⟨.type "NoneType", PySem.W.Looks.of_pure rfl, ?_⟩
    unfold PySem.W.notFirst
    rw [HN.sub_none]
    simp
  · cases r
    obtain ⟨mB, J', _⟩ := ins_get I.hok hb
    obtain ⟨od', J', _⟩ := J'.look
    exact ⟨.ref C, J'.type, by simp [PySem.W.notFirst]⟩
theorem op_ownE (D : MthOk X.prog X.w X.K X.mg X.base C "__eq__" k ps sp) (hr : Room k X.A) (hx : Passes (L2N.CX X.prog X.w) X E) : OpR X (compareOp .Eq) (rOwnE C sp E) := by
  obtain ⟨f, fd, F, hm, hb, hc⟩ := D
  intro pins s σ H x y v u Q I rx ry h
  obtain ⟨a, dx, fs, rfl, ha, ho, q⟩ := h
  cases rx
  obtain ⟨mA, J, _⟩ := ins_get I.hok ha
  obtain ⟨od, J, _⟩ := J.look
  obtain ⟨tb, lk, nf⟩ := oth_looks I ry ho
  obtain ⟨m, hF⟩ := I.fr
  show wpAny (model X.prog X.w) X.A (richCompare .Eq (.ref a) u) (EP X pins σ Q) X.xe s
  refine PySem.W.cmp_K (op := .Eq) hr.units0 hF I.ok.mod.kin J lk nf hm.at_ hm.fn ?_
  have run := run_fn (us := [.ref a, u]) (vs := [.ref a, y]) (ds := []) (dvs := []) F hr hb .nil hx I (.cons rfl (.cons ry .nil)) q
  refine wpAny_mono run ?_ fun _ _ z => z
  rintro r s' ⟨z, H', I', rz, b, rfl, qz⟩
  cases (show r = Value.bool b from rz)
  exact ⟨.bl b, H', I', rfl, qz⟩
theorem op_ownN (D : MthOk X.prog X.w X.K X.mg X.base C "__eq__" k ps sp) (n : NeOk X.K C) (hr : Room (k + 1) X.A) (hx : Passes (L2N.CX X.prog X.w) X E) : OpR X (compareOp .NotEq) (rOwnN C sp E) := by
  obtain ⟨f, fd, F, hm, hb, hc⟩ := D
  intro pins s σ H x y v u Q I rx ry h
  obtain ⟨a, dx, fs, rfl, ha, ho, q⟩ := h
  cases rx
  obtain ⟨mA, J, _⟩ := ins_get I.hok ha
  obtain ⟨od, J, _⟩ := J.look
  obtain ⟨tb, lk, nf⟩ := oth_looks I ry ho
  obtain ⟨m, hF⟩ := I.fr
  show wpAny (model X.prog X.w) X.A (richCompare .NotEq (.ref a) u) (EP X pins σ Q) X.xe s
  have hl := F.len _ _ _ _ q
  refine cmpNe_K (Nat.lt_of_le_of_lt (Nat.add_le_add_left (by decide) _) hr.units) hF I.ok.mod.kin J lk nf n.ne n.mo hm.at_ hm.fn ?_
  have bd := hb s [.ref a, u] I.kIn (by rw [List.append_nil]; simpa using hl)
  rw [List.append_nil] at bd
  have run := F.run X.A.in1 X.stack s H ⟨[.ref a, u], []⟩ [.ref a, u] [.ref a, y] _ E hr.in1 I.env0.in1 bd (.cons rfl (.cons ry .nil)) q
  refine wpAny_call (codeAny_mono run ?_)
  intro res s2 z
  match res, z with
  | .error er, z => exact hx pins σ H s er s2 I z
  | .ok (.ret r), z =>
    obtain ⟨zv, H', I', rz, b, rfl, qz⟩ := I.after z
    cases (show r = Value.bool b from rz)
    exact ⟨b, rfl, .bl (!b), H', I', rfl, qz⟩
  | .ok .next, z => exact z.elim
  | .ok .brk, z => exact z.elim
  | .ok .cont, z => exact z.elim
end
section
variable {K : PySem.W.Frag} {H : Hp} {Q : VK} {E : XK} {C a b dx dy : Addr} {fs gs : List (Str × V)} {sp : Sp}
theorem g_ownE (h : H a = some (.ins C dx fs)) (h2 : H b = some (.ins C dy gs)) (q : sp [.ref a, .ref b] H (fun v H' => ∃ b, v = .bl b ∧ Q (.bl b) H') E) : rOwnE C sp E (.ref a) (.ref b) H Q := ⟨a, dx, fs, rfl, h, .inr ⟨b, dy, gs, rfl, h2⟩, q⟩
theorem g_ownE0 (h : H a = some (.ins C dx fs)) (q : sp [.ref a, .non] H (fun v H' => ∃ b, v = .bl b ∧ Q (.bl b) H') E) : rOwnE C sp E (.ref a) .non H Q := ⟨a, dx, fs, rfl, h, .inl rfl, q⟩
theorem g_ownN (h : H a = some (.ins C dx fs)) (h2 : H b = some (.ins C dy gs)) (q : sp [.ref a, .ref b] H (fun v H' => ∃ b, v = .bl b ∧ Q (.bl (!b)) H') E) : rOwnN C sp E (.ref a) (.ref b) H Q := ⟨a, dx, fs, rfl, h, .inr ⟨b, dy, gs, rfl, h2⟩, q⟩
end
/-! #### methods and makers called by keywords alone -/
def MthL (P : Program) (w : World) (K : PySem.W.Frag) (mg : Str → Option Value) (base : Heap) (C : Addr) (m : Str) (k : Nat) (ps : List Str) (sp : Sp) : Prop :=
  ∃ f fd, FnOk P w K mg base (L2N.CX P w) k f fd ps sp ∧ Meth K C m f ∧ Binds K fd ps [] ∧ Cls K C ∧ ∃ oc od osl, K.lookup f = some ⟨oc, od, .func fd, osl⟩
def MkL (P : Program) (w : World) (K : PySem.W.Frag) (mg : Str → Option Value) (base : Heap) (x : Str) (C : Addr) (k : Nat) (ps : List Str) (sp : Sp) : Prop :=
  ∃ f fd, FnOk P w K mg base (L2N.CX P w) k f fd ps sp ∧ Mk K C f ∧ mg x = some (.ref C) ∧ Binds K fd ps [] ∧ ∃ oc od osl, K.lookup f = some ⟨oc, od, .func fd, osl⟩
section
variable {P : Program} {w : World} {K : PySem.W.Frag} {mg : Str → Option Value} {base : Heap} {x qual : Str} {st : Stmt} {N ps : List Str} {k : Nat} {sp : Sp} {C : Addr}
theorem TopM.okL (T : TopM K C x qual st) (c : Cls K C) (S : FnScope N ps (defScope st))
    (hb : ∀ (kV doc pm : Value) (an : Option Addr) (cdv ct : Value) (us : List Value), us.length = ps.length → bindArgs (PySem.W.fnOf x qual (defArgs st) (defBody st) (defScope st) .none kV doc pm an cdv ct) ⟨us, []⟩ = pure (ps.zip us))
    (len : ∀ vs H Q E, sp vs H Q E → vs.length = ps.length)
    (hbody : ∀ (f : Addr) (cdv : Value) (A : Around) (outer : List Env) (s : Shared) (H : Hp) (vs : List V) (Q : VK) (E : XK), Room k (A.deeper (envOfC qual (defScope st) s.heap.objs.size f cdv)) → sp vs H Q E →
      ∃ t, PSs (cxOf (L2N.CX P w) P w K mg base N qual (defScope st) f cdv A outer s H E) (defBody st) t ∧ t { nx := fun _ H' => Q .non H', rt := Q } (start N vs) H) : MthL P w K mg base C x (k + 1) ps sp := by
  obtain ⟨f, fd, F, hm⟩ := T
  obtain ⟨oc, od, dV, kV, doc, pm, an, cdv, ct, osl, _, lk, _, _, _⟩ := F.ex
  exact ⟨f, fd, F.ok S len fun cdv A outer s H vs Q E hr h => hbody f cdv A outer s H vs Q E hr h, hm, F.bindsN hb, c, oc, od, osl, lk⟩
theorem TopI.okL (T : TopI K mg x C qual st) (S : FnScope N ps (defScope st))
    (hb : ∀ (kV doc pm : Value) (an : Option Addr) (cdv ct : Value) (us : List Value), us.length = ps.length → bindArgs (PySem.W.fnOf "__init__" qual (defArgs st) (defBody st) (defScope st) .none kV doc pm an cdv ct) ⟨us, []⟩ = pure (ps.zip us))
    (len : ∀ vs H Q E, sp vs H Q E → vs.length = ps.length)
    (hbody : ∀ (f : Addr) (cdv : Value) (A : Around) (outer : List Env) (s : Shared) (H : Hp) (vs : List V) (Q : VK) (E : XK), Room k (A.deeper (envOfC qual (defScope st) s.heap.objs.size f cdv)) → sp vs H Q E →
      ∃ t, PSs (cxOf (L2N.CX P w) P w K mg base N qual (defScope st) f cdv A outer s H E) (defBody st) t ∧ t { nx := fun _ H' => Q .non H', rt := Q } (start N vs) H) : MkL P w K mg base x C (k + 1) ps sp := by
  obtain ⟨f, fd, F, hm, hx⟩ := T
  obtain ⟨oc, od, dV, kV, doc, pm, an, cdv, ct, osl, _, lk, _, _, _⟩ := F.ex
  exact ⟨f, fd, F.ok S len fun cdv A outer s H vs Q E hr h => hbody f cdv A outer s H vs Q E hr h, hm, hx, F.bindsN hb, oc, od, osl, lk⟩
theorem MthL.ok (D : MthL P w K mg base C x k ps sp) : MthOk P w K mg base C x k ps sp := by
  obtain ⟨f, fd, a, b, c, d, _⟩ := D
  exact ⟨f, fd, a, b, c, d⟩
theorem MkL.ok (D : MkL P w K mg base x C k ps sp) : MkOk P w K mg base x C k ps sp := by
  obtain ⟨f, fd, a, b, c, d, _⟩ := D
  exact ⟨f, fd, a, b, c, d⟩
end
def tMethK (C : Addr) (m : Str) (n : Nat) (sp : Sp) (E : XK) (ta : TE) (tk : TA) : TE := fun σ H Q => ta σ H fun x H1 => insR C m x H1 (tk σ H1 (kwR n (fun zs => x :: zs) sp E Q))
def tMakeK (C : Addr) (n : Nat) (sp : Sp) (E : XK) (tk : TA) : TE := fun σ H Q => tk σ H fun zs H2 => zs.length = n ∧ ∀ x dx, H2 x = none → H2 dx = none → dx ≠ x → sp (.ref x :: zs) (upd (upd H2 dx (.own x)) x (.ins C dx [])) (fun v H3 => v = .non ∧ Q (.ref x) H3) E
section
variable {X : Cx} {x m qual : Str} {k : Nat} {ps ks : List Str} {sp : Sp} {C : Addr} {E : XK} {p pos apos : Pos} {o : Expr} {ta : TE} {tk : TA} {kws : List Keyword} {st : Stmt}
theorem pe_mthK {pl : Sem Bool} (D : MthL X.prog X.w X.K X.mg X.base C m k ps sp) (T : TopM X.K C m qual st)
    (hb : ∀ (kV doc pm : Value) (an : Option Addr) (cdv ct x : Value) (us : List Value), us.length = ks.length → bindArgs (PySem.W.fnOf m qual (defArgs st) (defBody st) (defScope st) .none kV doc pm an cdv ct) ⟨[x], ks.zip us⟩ = pure (ps.zip (x :: us)))
    (hr : Room k X.A) (hx : Passes (L2N.CX X.prog X.w) X E) (ho : PE X o ta) (hkw : PK X kws tk)
    (hall : (backToKw pos (keywordEach kws X.env)).all (·.1.isSome) = true := by rfl) (hks : (backToKw pos (keywordEach kws X.env)).filterMap (·.1) = ks := by rfl)
    (hpl : ((backTo pos (starEach [] X.env)).any (·.1) || (backToKw pos (keywordEach kws X.env)).any (·.1.isNone)) = false := by rfl)
    (ht : eval (.Call (.Attribute o m apos) [] kws pos) X.env = (do
      let ov ← eval o X.env
      standAt apos.atName
      let (f, first) ← holding [ov] (getMethod ov m pl)
      callWith pos f first (backTo pos (starEach [] X.env)) (backToKw pos (keywordEach kws X.env))) := by rfl) :
    PE X (.Call (.Attribute o m apos) [] kws pos) (tMethK C m ks.length sp E ta tk) := by
  obtain ⟨f, fd, F, hm, _, hc, oc, od, osl, lk⟩ := D
  obtain ⟨f', fd', FD, hm'⟩ := T
  have e := hm.at_.symm.trans hm'.at_
  cases e
  obtain ⟨oc', od', dV, kV, doc, pm, an, cdv, ct, osl', rfl, lk', _, hD, _⟩ := FD.ex
  cases lk.symm.trans lk'
  rcases hD with ⟨_, rfl⟩ | ⟨e, _⟩
  · constructor
    intro pins s σ H Q I h
    have run := ho.run pins s σ H _ I h
    refine PySem.W.methodCall_KW (pl := pl) (thn run ?_) ht
    rintro u s1 ⟨y, H1, I1, ry, a, dx, fs, rfl, ea, l, q⟩
    cases (show u = Value.ref a from ry)
    apply getmeth_ok I1 ea hc hm l
    apply PySem.W.callWith_KW0 (h₀ := X.base) (first := [.ref a]) I.ok.mod.kin hm.kp hall ?_ hpl
    refine thn (hkw.run pos pins s1 σ H1 _ I1 q) ?_
    rintro ws s2 ⟨zs, H2, I2, rz, l2, q2⟩
    refine ⟨I2.kIn, ?_⟩
    rw [hks]
    have bd := BindsTo.of_eq (s := s2) (hb kV doc pm an cdv ct (.ref a) ws (rz.length.symm.trans l2))
    have run := F.run X.A X.stack s2 H2 ⟨[.ref a], ks.zip ws⟩ (.ref a :: ws) (.ref a :: zs) Q E hr I2.env0 bd (.cons rfl rz) q2
    refine wpAny_call (codeAny_mono run ?_)
    intro res s3 z
    match res, z with
    | .error er, z => exact hx pins σ H2 s2 er s3 I2 z
    | .ok (.ret u), z => exact I2.after z
    | .ok .next, z => exact z.elim
    | .ok .brk, z => exact z.elim
    | .ok .cont, z => exact z.elim
  · exact absurd rfl e
theorem pe_mkK (D : MkL X.prog X.w X.K X.mg X.base x C k ps sp) (T : TopI X.K X.mg x C qual st)
    (hb : ∀ (kV doc pm : Value) (an : Option Addr) (cdv ct x : Value) (us : List Value), us.length = ks.length → bindArgs (PySem.W.fnOf "__init__" qual (defArgs st) (defBody st) (defScope st) .none kV doc pm an cdv ct) ⟨[x], ks.zip us⟩ = pure (ps.zip (x :: us)))
    (hr : Room (k + 1) X.A) (hx : Passes (L2N.CX X.prog X.w) X E) (hkw : PK X kws tk) (hg : Gl X x := by rfl)
    (hall : (backToKw pos (keywordEach kws X.env)).all (·.1.isSome) = true := by rfl) (hks : (backToKw pos (keywordEach kws X.env)).filterMap (·.1) = ks := by rfl) (hdb : (x == ("__debug__" : Str)) = false := by decide)
    (hpl : ((backTo pos (starEach [] X.env)).any (·.1) || (backToKw pos (keywordEach kws X.env)).any (·.1.isNone)) = false := by rfl) : PE X (.Call (.Name x p) [] kws pos) (tMakeK C ks.length sp E tk) := by
  obtain ⟨f, fd, F, hm, hmx, _, oc, od, osl, lk⟩ := D
  obtain ⟨f', fd', FD, hm', _⟩ := T
  have e := hm.init.symm.trans hm'.init
  cases e
  obtain ⟨oc', od', dV, kV, doc, pm, an, cdv, ct, osl', rfl, lk', _, hD, _⟩ := FD.ex
  cases lk.symm.trans lk'
  rcases hD with ⟨_, rfl⟩ | ⟨e, _⟩
  · have kb : KBn X.K (PySem.W.fnOf "__init__" qual (defArgs st) (defBody st) (defScope st) .none kV doc pm an cdv ct) ps (0 + 1) ks (fun us ws => us ++ ws) (fun vs zs => vs ++ zs) := by
      refine ⟨fun s us ws _ l1 l2 => ?_, fun r1 r2 => r1.append r2⟩
      match us, l1 with
      | [u], _ => exact BindsTo.of_eq (hb kV doc pm an cdv ct u ws l2)
    constructor
    intro pins s σ H Q I h
    apply wpAny_Call_Name_kw (ld_glob I hg hmx ?_ hdb)
    apply PySem.W.callWith_KW0 (h₀ := X.base) I.ok.mod.kin hm.kp hall ?_ hpl
    refine thn (hkw.run pos pins s σ H _ I h) ?_
    rintro ws s2 ⟨zs, H2, I2, rz, l, q⟩
    refine ⟨I2.kIn, ?_⟩
    rw [hks]
    exact run_makeN (n := 0) (us := []) (vs := []) hm F hr kb hx I2 .nil rz rfl l q
  · exact absurd rfl e
end
section
variable {σ : L2.St} {H : Hp} {Q : VK} {sp : Sp} {E : XK} {tk : TA} {ta : TE} {n : Nat} {C : Addr} {m : Str} {zs : List V}
theorem g_methK (q : ta σ H fun x H1 => insR C m x H1 (tk σ H1 (kwR n (fun zs => x :: zs) sp E Q))) : tMethK C m n sp E ta tk σ H Q := q
theorem g_makeK (q : tk σ H fun zs H2 => zs.length = n ∧ ∀ x dx, H2 x = none → H2 dx = none → dx ≠ x → sp (.ref x :: zs) (upd (upd H2 dx (.own x)) x (.ins C dx [])) (fun v H3 => v = .non ∧ Q (.ref x) H3) E) : tMakeK C n sp E tk σ H Q := q
theorem g_makeK1 {M : Prop} (h : zs.length = n) (q : M) : zs.length = n ∧ M := ⟨h, q⟩
end
end SH
end

section
/-! ### own errors whose __init__ says super().__init__(e), then self.f = e; their class stands under another own class under ValueError -/
namespace PySem
namespace XsX
open PySem.W PySem.Calls PyProof.Rows PySem.HandSPX
def iA (f : Str) (p1 p2 : Pos) : Arguments := { posonlyargs := [], args := [{ arg := "self", annotation := none, pos := p1 }, { arg := f, annotation := none, pos := p2 }], vararg := none, kwonlyargs := [], kw_defaults := [], kwarg := none, defaults := [] }
def iB (f : Str) (q0 q1 q2 q3 q4 q5 q6 q7 q8 q9 : Pos) : List Stmt :=
  [.Expr (.Call (.Attribute (.Call (.Name "super" q0) [] [] q1) "__init__" q2) [.Name f q3] [] q4) q5, .Assign [.Attribute (.Name "self" q6) f q7] (.Name f q8) q9]
def iS (f : Str) : Scope := { kind := .function, names := [(PySem.Str.ofString "self", .local), (f, .local), (PySem.Str.ofString "__class__", .free), (PySem.Str.ofString "super", .globalImplicit)], isGenerator := false, isCoroutine := false, more := [] }
structure NmOk (f : Str) : Prop where
  l1 : (iS f).names.lookup ("self" : Str) = some NameKind.local
  l2 : (iS f).names.lookup f = some NameKind.local
  l3 : (iS f).names.lookup ("__class__" : Str) = some NameKind.free
  l4 : (iS f).names.lookup ("super" : Str) = some NameKind.globalImplicit
  ne : ¬ ("self" : Str) = f
  nd : (f == ("__debug__" : Str)) = false
/-- what the written part says of the class at C, its field f, its __init__ at fI -/
structure XsTxt (prog : Program) (K : Frag) (mg : Str → Option Value) (x f : Str) (C fI : Addr) : Prop where
  nm : NmOk f
  gC : mg x = some (.ref C)
  cls : ∃ nm q N bs bm sn sub ab col dd k0 k1 k2 k3 k5, K.lookup C = some (excClassObj nm q C N bs bm true sn sub ab col dd k0 k1 k2 k3 k5 "ValueError.__new__") ∧ refsVE bm = true
  sup : ks_superIn K C C "__init__" = some (some (.builtin "ValueError.__init__"))
  sa : findIn K (.ref C) "__setattr__" = some (some (.builtin "object.__setattr__"))
  noF : findIn K (.ref C) f = some none
  iC : findIn K (.ref C) "__init__" = some (some (.ref fI))
  tC : typeIn K (.ref fI) = some (.type "function")
  kC : keepIn K (.ref C) = true
  exC : subIn K (.ref C) (.type "BaseException") = some true
  vC : subIn K (.ref C) (.type "ValueError") = some true
  mC : mroIn K C (.ref C) = some true
  tyC : typeIn K (.ref C) = some (.type "type")
  top : (prog.main.scope.names.lookup ("super" : Str)).isSome = false
  sg : nsIn K mainGlobals "super" = some none
  tp : nsIn K cStatics "thirdparty.any" = some none
  fn : ∃ (qual : Str) (oc : Value) (od : Option Addr) (doc pm : Value) (an : Option Addr) (cda cc : Addr) (ct : Value) (osl : Array (Option Value)) (p1 p2 q0 q1 q2 q3 q4 q5 q6 q7 q8 q9 : Pos)
      (ccl : Value) (cdd : Option Addr) (vs : Array Value) (ccs : Array (Option Value)) (file : Str) (tf : Tok) (cl : Value) (cld : Option Addr) (csl : Array (Option Value)),
    K.lookup fI = some ⟨oc, od, .func (ksFn "__init__" qual (iA f p1 p2) (iB f q0 q1 q2 q3 q4 q5 q6 q7 q8 q9) (iS f) .none .none doc pm an (.ref cda) ct cc), osl⟩ ∧ codeIn K (.ref cda) qual = true ∧
    K.lookup cda = some ⟨ccl, cdd, .fields vs, ccs⟩ ∧ vs[2]? = some (.str file tf) ∧ ((prog.main.file : Str) == file) = true ∧ K.lookup cc = some ⟨cl, cld, .cell (some (.ref C)), csl⟩ ∧ (q2.endLine == q4.line) = true
/-- what __init__ leaves of a fresh exception at x -/
structure InitEnd (h h' : Heap) (x C dx t1 : Addr) (f : Str) (v : Value) : Prop where
  keep : ∀ b o, b ≠ x → h.get? b = some o → h'.get? b = some o
  obj : h'.get? x = some { cls := .ref C, dict := some dx, data := .fields #[.ref t1, .none, .none, .none, .bool false, .none] }
  dbig : h.objs.size ≤ dx
  dne : dx ≠ x
  ns : h'.Ns1 dx (fun y => if y = f then some v else none)
structure OwnMade (h h' : Heap) (e C d : Addr) (f : Str) (v : Value) : Prop where
  keep : ∀ b o, h.get? b = some o → h'.get? b = some o
  new : h.objs.size ≤ e
  obj : ∃ oe vs, h'.get? e = some oe ∧ oe.cls = .ref C ∧ oe.dict = some d ∧ oe.data = .fields vs ∧ vs[1]? = some .none ∧ vs[2]? = some .none ∧ 4 < vs.size
  dbig : h.objs.size ≤ d
  dne : d ≠ e
  ns : h'.Ns1 d (fun y => if y = f then some v else none)
theorem mc_eq {env : Env} {o : Expr} {name x : Str} {apos pos px : Pos} (hl : (apos.endLine == pos.line) = true) :
    eval (.Call (.Attribute o name apos) [.Name x px] [] pos) env = (do
      let ov ← attributeBase o name env (eval o env)
      standAt apos.atName
      let (f, first) ← holding [ov] (getMethod ov name (do return (← importBound o env).getD true))
      callWith pos f first (backTo pos (starEach [.Name x px] env)) []) := by
  show (do
      let ov ← attributeBase o name env (eval o env)
      standAt apos.atName
      methodCall o name apos pos env ov 1 (backTo pos (starEach [.Name x px] env)) []) = _
  have e : methodCallForm 1 (backTo pos (starEach [.Name x px] env)) [] = true := rfl
  unfold methodCall methodCallPos calleeOf
  simp only [e, hl, Bool.not_true, Bool.or_true, if_true, pure_bind]
theorem one_size (v : Value) : [v].length ≤ sizeLine := by
  rw [sizeLine_eq]
  exact (by decide : 1 ≤ 16777216)
section
variable {prog : Program} {w : World} {A : Around} {E : Value → Shared → Prop} {h : Heap} {g : Array GenState} {d : Drawn} {t : Nat} {os : OsState}
variable {nm q : Str} {C N : Addr} {bs bm : List Value} {hdct : Bool} {sn : List Str} {sub : List Value} {ab : Bool} {col : Option Bool} {dd : Option Addr} {k0 k1 k2 k3 k5 : Option Value}
theorem call_bw {u e t0 : Addr} {rest : List Value} {Q : Value → Shared → Prop}
    (hC : h.get? C = some (excClassObj nm q C N bs bm hdct sn sub ab col dd k0 k1 k2 k3 k5 "ValueError.__new__")) (he : h.get? e = some (HandSPX.excO C t0)) (hu : h.get? u = some (kxs_mw "ValueError.__init__" e)) (hrest : rest.length ≤ sizeLine)
    (hq : ∀ h' t1, (∀ b o, b ≠ e → h.get? b = some o → h'.get? b = some o) → h'.get? e = some (HandSPX.excO C t1) → Q .none ⟨h', g, d, t, os⟩) :
    wpAny (model prog w) A (call (.ref u) rest) Q E ⟨h, g, d, t, os⟩ := by
  refine wpAny_call (codeAny_of_tree ?_)
  show wpAny _ A.in1 (callAny (.ref u) ⟨rest, []⟩) _ _ _
  simp only [callAny]
  refine wpAny_bind (wpAny_load hu ?_)
  simp only [kxs_mw, show (Value.type "method-wrapper" == Value.type "method" || Value.type "method-wrapper" == Value.type "builtin_function_or_method" || Value.type "method-wrapper" == Value.type "method-wrapper") = true by decide, if_true]
  refine W.KFB.if_so (by decide) ?_
  refine wpAny_bind (ESX.check_bound F.excBase_ValueError hC he rfl ?_)
  refine wpAny_bind (wpAny_pure (wpAny_pure ?_))
  refine ⟨Code.quiet_builtin _ (by decide +kernel), codeAny_builtin F.excBase_ValueError.initEntry ?_⟩
  rw [Around.under_plainId F.excBase_ValueError.init.plain _]
  wp_walk
  refine hq _ h.objs.size (fun b o hb ho => ?_) ?_
  · rw [Heap.get?_update_other _ _ (Ne.symm hb)]
    exact Heap.get?_push_of_some _ ho
  · rw [Heap.get?_update_self _ (Heap.get?_push_of_some _ he) rfl]
    rfl
end
section
variable {prog : Program} {w : World} {A : Around} {E : Value → Shared → Prop} {R : Result → Shared → Prop} {s : Shared} {K : Frag} {mg mb : Str → Option Value} {x : Str} {C fI : Addr}
theorem xs_init_name (T : XsTxt prog K mg x "name" C fI) {a t0 : Addr} {v : Value} (X : K.In s.heap) (G : s.heap.Ns mainGlobals mg) (B : s.heap.Ns builtinsNs mb) (hB : mb "super" = some (.type "super")) (hlim : s.heap.NoLimit) (ha : s.heap.get? a = some (excO C t0)) (hna : K.lookup a = none) (hroom : A.depth < recursionLimit)
    (hq : ∀ h' tk dx t1, InitEnd s.heap h' a C dx t1 "name" v → R (.ok (.ret .none)) { s with heap := h', toks := tk }) :
    codeAny (model prog w) A (.call (.ref fI) ⟨[.ref a, v], []⟩) R s := by
  obtain ⟨qual, oc, od, doc, pm, an, cda, cc, ct, osl, p1, p2, q0, q1, q2, q3, q4, q5, q6, q7, q8, q9, ccl, cdd, vs, ccs, file, tf, cl, cld, csl, ho, hcd, hcda, hvs, hfile, hcc, hln⟩ := T.fn
  obtain ⟨nm, q, N, bs, bm, sn, sub, ab, col, dd, k0, k1, k2, k3, k5, hC, hbm⟩ := T.cls
  have hcl : clsIn K C = some { name := nm, bases := bs, mro := .ref C :: bm, ns := N, qualname := q, hasDict := true, slotNames := sn, subclasses := sub, abstract := ab, collection := col, hasDel := false } := by unfold clsIn; rw [hC] <;> rfl
  have hns : mg "super" = none := mg_none_of X G T.sg
  refine ks_codeAny_call_defAt (fd := ksFn "__init__" qual (iA "name" p1 p2) (iB "name" q0 q1 q2 q3 q4 q5 q6 q7 q8 q9) (iS "name") .none .none doc pm an (.ref cda) ct cc) (body := iB "name" q0 q1 q2 q3 q4 q5 q6 q7 q8 q9)
    (binds := [("self", .ref a), ("name", v)]) hroom (X _ _ ho) rfl hlim (codeRec_of X hcd) rfl (BindsTo.of_eq (by first | rfl | with_unfolding_all rfl)) ?_ ?_ (fun h₁ hns₁ k₁ => ?_) rfl rfl rfl
  · intro y hy e
    have hy' : y ∈ [(PySem.Str.ofString "self", NameKind.local), ("name", .local), (PySem.Str.ofString "__class__", .free), (PySem.Str.ofString "super", .globalImplicit)] := hy
    simp only [List.mem_cons, List.not_mem_nil, or_false] at hy'
    rcases hy' with rfl | rfl | rfl | rfl <;> cases e
  · intro y hy
    rcases List.mem_cons.mp hy with rfl | hy
    · exact T.nm.l1
    · rcases List.mem_singleton.mp hy with rfl
      exact T.nm.l2
  have X₁ : K.In h₁ := X.keeps k₁
  have ha₁ := k₁ _ _ ha
  have hfl : ([("self", Value.ref a), ("name", v)] : List (Str × Value)).reverse.lookup ("name" : Str) = some v := by
    show ([("name", v), ("self", Value.ref a)] : List (Str × Value)).lookup ("name" : Str) = some v
    simp [List.lookup]
  have hsl : ([("self", Value.ref a), ("name", v)] : List (Str × Value)).reverse.lookup ("self" : Str) = some (.ref a) := by
    show ([("name", v), ("self", Value.ref a)] : List (Str × Value)).lookup ("self" : Str) = some (.ref a)
    have e : (("self" : Str) == ("name" : Str)) = false := by simpa using T.nm.ne
    simp [List.lookup, e]
  have I₁ : InstAt h₁ a (excO C t0) C none := ⟨ha₁, rfl, rfl, trivial⟩
  refine ks_wpAt_execs_cons (ks_wpAt_Expr_any (ks_wpAt_MethodCall ?_ (mc_eq hln)))
  refine ks_wpAt_super_base T.nm.l4 T.nm.l3 (by decide) rfl (X₁ _ _ ho) rfl rfl rfl (X₁ _ _ hcda) rfl hvs hfile T.top ?_
  refine ks_loadName_global rfl T.nm.l4 (loadGlobal_builtin (G.keeps k₁) hns (B.keeps k₁) hB ⟨rfl, ?_⟩)
  refine wpAny_loadName_free rfl T.nm.l3 (by rfl) ⟨_, X₁ _ _ hcc, rfl⟩ ?_
  refine wpAny_loadName_local rfl T.nm.l1 hns₁ hsl ?_
  refine ks_wpAny_isType_cls (X₁ _ _ hC) rfl ⟨rfl, ?_⟩
  refine ks_wpAny_call_super (X₁ _ _ hC) rfl I₁.at_ I₁.cls (fun c e => by cases e) (looks_mroIn X₁ T.mC) (fun h₂ e₂ k₂ => ?_)
  have X₂ : K.In h₂ := X₁.keeps k₂
  have ha₂ := k₂ _ _ ha₁
  have I₂ : InstAt h₂ a (excO C t0) C none := ⟨ha₂, rfl, rfl, trivial⟩
  have hf : alongIn K "__init__" (((Value.ref C :: bm).dropWhile (· != .ref C)).drop 1) = some (some (.builtin "ValueError.__init__")) := by
    have z := T.sup
    unfold ks_superIn at z
    rw [hcl] at z
    exact z
  have naC : a ≠ C := fun z => by rw [z, hC] at hna; cases hna
  refine kxs_getMethod kxs_ValueError e₂ (looks_opaque X₂ T.tp) (l₀ := .ref C :: bm) (fun A Q E s k q => wpAny_bind ((looks_clsIn X₂ hcl) A _ E s k (wpAny_pure q))) rfl X₂ hf (I₂.type.andThen (looks_subIn X₂ T.vC)) naC (by decide) ?_
  have k₃ : ∀ b o, h₂.get? b = some o → (h₂.push (kxs_mw "ValueError.__init__" a)).get? b = some o := fun b o e => Heap.get?_push_of_some _ e
  refine kxs_callWith (i := "ValueError.__init__") (x := a) rfl (evalArgs_plain ?_)
  have hns₂ : ((h₂.push (kxs_mw "ValueError.__init__" a)).Ns s.heap.objs.size fun x => ([("self", Value.ref a), ("name", v)] : List (Str × Value)).reverse.lookup x) := by
    obtain ⟨oL, es, ep, hL, r⟩ := hns₁
    exact ⟨oL, es, ep, k₃ _ _ (k₂ _ _ hL), r⟩
  refine Calls.spliced_cons (ESX.ldL (m := fun x => ([("self", Value.ref a), ("name", v)] : List (Str × Value)).reverse.lookup x) hns₂ hfl ?_ rfl T.nm.l2 T.nm.nd)
  refine Calls.spliced_nil ?_
  refine ⟨Heap.get?_push_size _ rfl, ?_⟩
  refine call_bw (k₃ _ _ (X₂ _ _ hC)) (k₃ _ _ ha₂) (Heap.get?_push_size _ rfl) (one_size v) (fun h₄ t1 k₄ ha₄ => ?_)
  have kall : ∀ b o, b ≠ a → s.heap.get? b = some o → h₄.get? b = some o := fun b o hb e => k₄ b o hb (k₃ _ _ (k₂ _ _ (k₁ _ _ e)))
  have X₄ : K.In h₄ := fun b o e => kall b o (fun z => by rw [z, hna] at e; cases e) (X b o e)
  have hL : s.heap.objs.size ≠ a := Nat.ne_of_gt (Heap.lt_size ha)
  have hns₄ : h₄.Ns s.heap.objs.size fun x => ([("self", Value.ref a), ("name", v)] : List (Str × Value)).reverse.lookup x := by
    obtain ⟨oL, es, ep, hL', r⟩ := hns₂
    exact ⟨oL, es, ep, k₄ _ _ hL hL', r⟩
  refine ks_wpAt_execs_cons (wpAt_of_wpAny (plainObj_wpAny_Assign_Attribute ?_))
  refine ESX.ldL (m := fun x => ([("self", Value.ref a), ("name", v)] : List (Str × Value)).reverse.lookup x) hns₄ hfl ?_ rfl T.nm.l2 T.nm.nd
  refine ESX.ldL (m := fun x => ([("self", Value.ref a), ("name", v)] : List (Str × Value)).reverse.lookup x) hns₄ hsl ?_ rfl T.nm.l1 (by decide)
  refine set_plain X₄ (ox := excO C t1) (od := none) ⟨ha₄, rfl, rfl, trivial⟩ T.sa ?_
  refine exc_osa X₄ ha₄ hcl (show refsVE (.ref C :: bm) = true from hbm) rfl T.noF (fun h₅ tk₅ dx k₅ dn dne hx₅ hn₅ => ?_)
  refine wpAt_of_wpAny (wpAny_execs_nil ?_)
  have zL : s.heap.objs.size < h₄.objs.size := hns₄.lt
  exact hq h₅ tk₅ dx t1 ⟨fun b o hb e => k₅ b o hb (kall b o hb e), hx₅, Nat.le_of_lt (Nat.lt_of_lt_of_le zL dn), dne, hn₅⟩
theorem xs_made_name (T : XsTxt prog K mg x "name" C fI) {v : Value} (X : K.In s.heap) (G : s.heap.Ns mainGlobals mg) (B : s.heap.Ns builtinsNs mb) (hB : mb "super" = some (.type "super")) (hlim : s.heap.NoLimit) (hroom : A.depth + 1 < recursionLimit)
    (hq : ∀ h' tk e d, OwnMade s.heap h' e C d "name" v → R (.ok (.ret (.ref e))) { s with heap := h', toks := tk }) :
    codeAny (model prog w) A (.call (.ref C) ⟨[v], []⟩) R s := by
  obtain ⟨nm, q, N, bs, bm, sn, sub, ab, col, dd, k0, k1, k2, k3, k5, hC, hbm⟩ := T.cls
  obtain ⟨hp, g, dr, tk, os⟩ := s
  have k : ∀ b o, hp.get? b = some o → ((hp.push (kdv_tup [v])).push (excO C hp.objs.size)).get? b = some o := fun b o e => Heap.get?_push_of_some _ (Heap.get?_push_of_some _ e)
  have hget : ((hp.push (kdv_tup [v])).push (excO C hp.objs.size)).get? (hp.objs.size + 1) = some (excO C hp.objs.size) := by heap_get
  have hnx : K.lookup (hp.objs.size + 1) = none := by
    cases e : K.lookup (hp.objs.size + 1) with
    | none => rfl
    | some o =>
      have z : hp.get? (hp.objs.size + 1) = some o := X _ _ e
      exact absurd (Nat.lt_of_succ_lt (Heap.lt_size z)) (Nat.lt_irrefl _)
  refine call_own F.excBase_ValueError (fun X => refsVE_contains X bm hbm) (X _ _ hC) (looks_findIn X T.iC) (fun self => bind_fn X self T.tC) (one_size v) ?_
  refine xs_init_name (s := ⟨(hp.push (kdv_tup [v])).push (excO C hp.objs.size), g, dr, tk, os⟩) T (X.keeps k) (G.keeps k) (B.keeps k) hB (hlim.keeps k) hget hnx ?_ fun h' tk' dx t1 ⟨k', hx, dn, dne, hns⟩ => ?_
  · show A.depth + 1 < recursionLimit
    exact hroom
  · have old : ∀ b o, hp.get? b = some o → h'.get? b = some o := fun b o e => k' b o (Nat.ne_of_lt (Nat.lt_succ_of_lt (Heap.lt_size e))) (k b o e)
    have z : hp.objs.size + 1 + 1 ≤ dx := by
      first
        | (simpa only [Heap.size_push] using dn)
        | exact dn
        | (have q := dn; rw [Heap.size_push, Heap.size_push] at q; exact q)
    exact ⟨rfl, hq h' tk' (hp.objs.size + 1) dx ⟨old, Nat.le_succ _, ⟨_, _, hx, rfl, rfl, rfl, rfl, rfl, by simp⟩, Nat.le_trans (Nat.le_trans (Nat.le_succ _) (Nat.le_succ _)) z, dne, hns⟩⟩
theorem xs_init_word (T : XsTxt prog K mg x "word" C fI) {a t0 : Addr} {v : Value} (X : K.In s.heap) (G : s.heap.Ns mainGlobals mg) (B : s.heap.Ns builtinsNs mb) (hB : mb "super" = some (.type "super")) (hlim : s.heap.NoLimit) (ha : s.heap.get? a = some (excO C t0)) (hna : K.lookup a = none) (hroom : A.depth < recursionLimit)
    (hq : ∀ h' tk dx t1, InitEnd s.heap h' a C dx t1 "word" v → R (.ok (.ret .none)) { s with heap := h', toks := tk }) :
    codeAny (model prog w) A (.call (.ref fI) ⟨[.ref a, v], []⟩) R s := by
  obtain ⟨qual, oc, od, doc, pm, an, cda, cc, ct, osl, p1, p2, q0, q1, q2, q3, q4, q5, q6, q7, q8, q9, ccl, cdd, vs, ccs, file, tf, cl, cld, csl, ho, hcd, hcda, hvs, hfile, hcc, hln⟩ := T.fn
  obtain ⟨nm, q, N, bs, bm, sn, sub, ab, col, dd, k0, k1, k2, k3, k5, hC, hbm⟩ := T.cls
  have hcl : clsIn K C = some { name := nm, bases := bs, mro := .ref C :: bm, ns := N, qualname := q, hasDict := true, slotNames := sn, subclasses := sub, abstract := ab, collection := col, hasDel := false } := by unfold clsIn; rw [hC] <;> rfl
  have hns : mg "super" = none := mg_none_of X G T.sg
  refine ks_codeAny_call_defAt (fd := ksFn "__init__" qual (iA "word" p1 p2) (iB "word" q0 q1 q2 q3 q4 q5 q6 q7 q8 q9) (iS "word") .none .none doc pm an (.ref cda) ct cc) (body := iB "word" q0 q1 q2 q3 q4 q5 q6 q7 q8 q9)
    (binds := [("self", .ref a), ("word", v)]) hroom (X _ _ ho) rfl hlim (codeRec_of X hcd) rfl (BindsTo.of_eq (by first | rfl | with_unfolding_all rfl)) ?_ ?_ (fun h₁ hns₁ k₁ => ?_) rfl rfl rfl
  · intro y hy e
    have hy' : y ∈ [(PySem.Str.ofString "self", NameKind.local), ("word", .local), (PySem.Str.ofString "__class__", .free), (PySem.Str.ofString "super", .globalImplicit)] := hy
    simp only [List.mem_cons, List.not_mem_nil, or_false] at hy'
    rcases hy' with rfl | rfl | rfl | rfl <;> cases e
  · intro y hy
    rcases List.mem_cons.mp hy with rfl | hy
    · exact T.nm.l1
    · rcases List.mem_singleton.mp hy with rfl
      exact T.nm.l2
  have X₁ : K.In h₁ := X.keeps k₁
  have ha₁ := k₁ _ _ ha
  have hfl : ([("self", Value.ref a), ("word", v)] : List (Str × Value)).reverse.lookup ("word" : Str) = some v := by
    show ([("word", v), ("self", Value.ref a)] : List (Str × Value)).lookup ("word" : Str) = some v
    simp [List.lookup]
  have hsl : ([("self", Value.ref a), ("word", v)] : List (Str × Value)).reverse.lookup ("self" : Str) = some (.ref a) := by
    show ([("word", v), ("self", Value.ref a)] : List (Str × Value)).lookup ("self" : Str) = some (.ref a)
    have e : (("self" : Str) == ("word" : Str)) = false := by simpa using T.nm.ne
    simp [List.lookup, e]
  have I₁ : InstAt h₁ a (excO C t0) C none := ⟨ha₁, rfl, rfl, trivial⟩
  refine ks_wpAt_execs_cons (ks_wpAt_Expr_any (ks_wpAt_MethodCall ?_ (mc_eq hln)))
  refine ks_wpAt_super_base T.nm.l4 T.nm.l3 (by decide) rfl (X₁ _ _ ho) rfl rfl rfl (X₁ _ _ hcda) rfl hvs hfile T.top ?_
  refine ks_loadName_global rfl T.nm.l4 (loadGlobal_builtin (G.keeps k₁) hns (B.keeps k₁) hB ⟨rfl, ?_⟩)
  refine wpAny_loadName_free rfl T.nm.l3 (by rfl) ⟨_, X₁ _ _ hcc, rfl⟩ ?_
  refine wpAny_loadName_local rfl T.nm.l1 hns₁ hsl ?_
  refine ks_wpAny_isType_cls (X₁ _ _ hC) rfl ⟨rfl, ?_⟩
  refine ks_wpAny_call_super (X₁ _ _ hC) rfl I₁.at_ I₁.cls (fun c e => by cases e) (looks_mroIn X₁ T.mC) (fun h₂ e₂ k₂ => ?_)
  have X₂ : K.In h₂ := X₁.keeps k₂
  have ha₂ := k₂ _ _ ha₁
  have I₂ : InstAt h₂ a (excO C t0) C none := ⟨ha₂, rfl, rfl, trivial⟩
  have hf : alongIn K "__init__" (((Value.ref C :: bm).dropWhile (· != .ref C)).drop 1) = some (some (.builtin "ValueError.__init__")) := by
    have z := T.sup
    unfold ks_superIn at z
    rw [hcl] at z
    exact z
  have naC : a ≠ C := fun z => by rw [z, hC] at hna; cases hna
  refine kxs_getMethod kxs_ValueError e₂ (looks_opaque X₂ T.tp) (l₀ := .ref C :: bm) (fun A Q E s k q => wpAny_bind ((looks_clsIn X₂ hcl) A _ E s k (wpAny_pure q))) rfl X₂ hf (I₂.type.andThen (looks_subIn X₂ T.vC)) naC (by decide) ?_
  have k₃ : ∀ b o, h₂.get? b = some o → (h₂.push (kxs_mw "ValueError.__init__" a)).get? b = some o := fun b o e => Heap.get?_push_of_some _ e
  refine kxs_callWith (i := "ValueError.__init__") (x := a) rfl (evalArgs_plain ?_)
  have hns₂ : ((h₂.push (kxs_mw "ValueError.__init__" a)).Ns s.heap.objs.size fun x => ([("self", Value.ref a), ("word", v)] : List (Str × Value)).reverse.lookup x) := by
    obtain ⟨oL, es, ep, hL, r⟩ := hns₁
    exact ⟨oL, es, ep, k₃ _ _ (k₂ _ _ hL), r⟩
  refine Calls.spliced_cons (ESX.ldL (m := fun x => ([("self", Value.ref a), ("word", v)] : List (Str × Value)).reverse.lookup x) hns₂ hfl ?_ rfl T.nm.l2 T.nm.nd)
  refine Calls.spliced_nil ?_
  refine ⟨Heap.get?_push_size _ rfl, ?_⟩
  refine call_bw (k₃ _ _ (X₂ _ _ hC)) (k₃ _ _ ha₂) (Heap.get?_push_size _ rfl) (one_size v) (fun h₄ t1 k₄ ha₄ => ?_)
  have kall : ∀ b o, b ≠ a → s.heap.get? b = some o → h₄.get? b = some o := fun b o hb e => k₄ b o hb (k₃ _ _ (k₂ _ _ (k₁ _ _ e)))
  have X₄ : K.In h₄ := fun b o e => kall b o (fun z => by rw [z, hna] at e; cases e) (X b o e)
  have hL : s.heap.objs.size ≠ a := Nat.ne_of_gt (Heap.lt_size ha)
  have hns₄ : h₄.Ns s.heap.objs.size fun x => ([("self", Value.ref a), ("word", v)] : List (Str × Value)).reverse.lookup x := by
    obtain ⟨oL, es, ep, hL', r⟩ := hns₂
    exact ⟨oL, es, ep, k₄ _ _ hL hL', r⟩
  refine ks_wpAt_execs_cons (wpAt_of_wpAny (plainObj_wpAny_Assign_Attribute ?_))
  refine ESX.ldL (m := fun x => ([("self", Value.ref a), ("word", v)] : List (Str × Value)).reverse.lookup x) hns₄ hfl ?_ rfl T.nm.l2 T.nm.nd
  refine ESX.ldL (m := fun x => ([("self", Value.ref a), ("word", v)] : List (Str × Value)).reverse.lookup x) hns₄ hsl ?_ rfl T.nm.l1 (by decide)
  refine set_plain X₄ (ox := excO C t1) (od := none) ⟨ha₄, rfl, rfl, trivial⟩ T.sa ?_
  refine exc_osa X₄ ha₄ hcl (show refsVE (.ref C :: bm) = true from hbm) rfl T.noF (fun h₅ tk₅ dx k₅ dn dne hx₅ hn₅ => ?_)
  refine wpAt_of_wpAny (wpAny_execs_nil ?_)
  have zL : s.heap.objs.size < h₄.objs.size := hns₄.lt
  exact hq h₅ tk₅ dx t1 ⟨fun b o hb e => k₅ b o hb (kall b o hb e), hx₅, Nat.le_of_lt (Nat.lt_of_lt_of_le zL dn), dne, hn₅⟩
theorem xs_made_word (T : XsTxt prog K mg x "word" C fI) {v : Value} (X : K.In s.heap) (G : s.heap.Ns mainGlobals mg) (B : s.heap.Ns builtinsNs mb) (hB : mb "super" = some (.type "super")) (hlim : s.heap.NoLimit) (hroom : A.depth + 1 < recursionLimit)
    (hq : ∀ h' tk e d, OwnMade s.heap h' e C d "word" v → R (.ok (.ret (.ref e))) { s with heap := h', toks := tk }) :
    codeAny (model prog w) A (.call (.ref C) ⟨[v], []⟩) R s := by
  obtain ⟨nm, q, N, bs, bm, sn, sub, ab, col, dd, k0, k1, k2, k3, k5, hC, hbm⟩ := T.cls
  obtain ⟨hp, g, dr, tk, os⟩ := s
  have k : ∀ b o, hp.get? b = some o → ((hp.push (kdv_tup [v])).push (excO C hp.objs.size)).get? b = some o := fun b o e => Heap.get?_push_of_some _ (Heap.get?_push_of_some _ e)
  have hget : ((hp.push (kdv_tup [v])).push (excO C hp.objs.size)).get? (hp.objs.size + 1) = some (excO C hp.objs.size) := by heap_get
  have hnx : K.lookup (hp.objs.size + 1) = none := by
    cases e : K.lookup (hp.objs.size + 1) with
    | none => rfl
    | some o =>
      have z : hp.get? (hp.objs.size + 1) = some o := X _ _ e
      exact absurd (Nat.lt_of_succ_lt (Heap.lt_size z)) (Nat.lt_irrefl _)
  refine call_own F.excBase_ValueError (fun X => refsVE_contains X bm hbm) (X _ _ hC) (looks_findIn X T.iC) (fun self => bind_fn X self T.tC) (one_size v) ?_
  refine xs_init_word (s := ⟨(hp.push (kdv_tup [v])).push (excO C hp.objs.size), g, dr, tk, os⟩) T (X.keeps k) (G.keeps k) (B.keeps k) hB (hlim.keeps k) hget hnx ?_ fun h' tk' dx t1 ⟨k', hx, dn, dne, hns⟩ => ?_
  · show A.depth + 1 < recursionLimit
    exact hroom
  · have old : ∀ b o, hp.get? b = some o → h'.get? b = some o := fun b o e => k' b o (Nat.ne_of_lt (Nat.lt_succ_of_lt (Heap.lt_size e))) (k b o e)
    have z : hp.objs.size + 1 + 1 ≤ dx := by
      first
        | (simpa only [Heap.size_push] using dn)
        | exact dn
        | (have q := dn; rw [Heap.size_push, Heap.size_push] at q; exact q)
    exact ⟨rfl, hq h' tk' (hp.objs.size + 1) dx ⟨old, Nat.le_succ _, ⟨_, _, hx, rfl, rfl, rfl, rfl, rfl, by simp⟩, Nat.le_trans (Nat.le_trans (Nat.le_succ _) (Nat.le_succ _)) z, dne, hns⟩⟩
theorem xs_init_place (T : XsTxt prog K mg x "place" C fI) {a t0 : Addr} {v : Value} (X : K.In s.heap) (G : s.heap.Ns mainGlobals mg) (B : s.heap.Ns builtinsNs mb) (hB : mb "super" = some (.type "super")) (hlim : s.heap.NoLimit) (ha : s.heap.get? a = some (excO C t0)) (hna : K.lookup a = none) (hroom : A.depth < recursionLimit)
    (hq : ∀ h' tk dx t1, InitEnd s.heap h' a C dx t1 "place" v → R (.ok (.ret .none)) { s with heap := h', toks := tk }) :
    codeAny (model prog w) A (.call (.ref fI) ⟨[.ref a, v], []⟩) R s := by
  obtain ⟨qual, oc, od, doc, pm, an, cda, cc, ct, osl, p1, p2, q0, q1, q2, q3, q4, q5, q6, q7, q8, q9, ccl, cdd, vs, ccs, file, tf, cl, cld, csl, ho, hcd, hcda, hvs, hfile, hcc, hln⟩ := T.fn
  obtain ⟨nm, q, N, bs, bm, sn, sub, ab, col, dd, k0, k1, k2, k3, k5, hC, hbm⟩ := T.cls
  have hcl : clsIn K C = some { name := nm, bases := bs, mro := .ref C :: bm, ns := N, qualname := q, hasDict := true, slotNames := sn, subclasses := sub, abstract := ab, collection := col, hasDel := false } := by unfold clsIn; rw [hC] <;> rfl
  have hns : mg "super" = none := mg_none_of X G T.sg
  refine ks_codeAny_call_defAt (fd := ksFn "__init__" qual (iA "place" p1 p2) (iB "place" q0 q1 q2 q3 q4 q5 q6 q7 q8 q9) (iS "place") .none .none doc pm an (.ref cda) ct cc) (body := iB "place" q0 q1 q2 q3 q4 q5 q6 q7 q8 q9)
    (binds := [("self", .ref a), ("place", v)]) hroom (X _ _ ho) rfl hlim (codeRec_of X hcd) rfl (BindsTo.of_eq (by first | rfl | with_unfolding_all rfl)) ?_ ?_ (fun h₁ hns₁ k₁ => ?_) rfl rfl rfl
  · intro y hy e
    have hy' : y ∈ [(PySem.Str.ofString "self", NameKind.local), ("place", .local), (PySem.Str.ofString "__class__", .free), (PySem.Str.ofString "super", .globalImplicit)] := hy
    simp only [List.mem_cons, List.not_mem_nil, or_false] at hy'
    rcases hy' with rfl | rfl | rfl | rfl <;> cases e
  · intro y hy
    rcases List.mem_cons.mp hy with rfl | hy
    · exact T.nm.l1
    · rcases List.mem_singleton.mp hy with rfl
      exact T.nm.l2
  have X₁ : K.In h₁ := X.keeps k₁
  have ha₁ := k₁ _ _ ha
  have hfl : ([("self", Value.ref a), ("place", v)] : List (Str × Value)).reverse.lookup ("place" : Str) = some v := by
    show ([("place", v), ("self", Value.ref a)] : List (Str × Value)).lookup ("place" : Str) = some v
    simp [List.lookup]
  have hsl : ([("self", Value.ref a), ("place", v)] : List (Str × Value)).reverse.lookup ("self" : Str) = some (.ref a) := by
    show ([("place", v), ("self", Value.ref a)] : List (Str × Value)).lookup ("self" : Str) = some (.ref a)
    have e : (("self" : Str) == ("place" : Str)) = false := by simpa using T.nm.ne
    simp [List.lookup, e]
  have I₁ : InstAt h₁ a (excO C t0) C none := ⟨ha₁, rfl, rfl, trivial⟩
  refine ks_wpAt_execs_cons (ks_wpAt_Expr_any (ks_wpAt_MethodCall ?_ (mc_eq hln)))
  refine ks_wpAt_super_base T.nm.l4 T.nm.l3 (by decide) rfl (X₁ _ _ ho) rfl rfl rfl (X₁ _ _ hcda) rfl hvs hfile T.top ?_
  refine ks_loadName_global rfl T.nm.l4 (loadGlobal_builtin (G.keeps k₁) hns (B.keeps k₁) hB ⟨rfl, ?_⟩)
  refine wpAny_loadName_free rfl T.nm.l3 (by rfl) ⟨_, X₁ _ _ hcc, rfl⟩ ?_
  refine wpAny_loadName_local rfl T.nm.l1 hns₁ hsl ?_
  refine ks_wpAny_isType_cls (X₁ _ _ hC) rfl ⟨rfl, ?_⟩
  refine ks_wpAny_call_super (X₁ _ _ hC) rfl I₁.at_ I₁.cls (fun c e => by cases e) (looks_mroIn X₁ T.mC) (fun h₂ e₂ k₂ => ?_)
  have X₂ : K.In h₂ := X₁.keeps k₂
  have ha₂ := k₂ _ _ ha₁
  have I₂ : InstAt h₂ a (excO C t0) C none := ⟨ha₂, rfl, rfl, trivial⟩
  have hf : alongIn K "__init__" (((Value.ref C :: bm).dropWhile (· != .ref C)).drop 1) = some (some (.builtin "ValueError.__init__")) := by
    have z := T.sup
    unfold ks_superIn at z
    rw [hcl] at z
    exact z
  have naC : a ≠ C := fun z => by rw [z, hC] at hna; cases hna
  refine kxs_getMethod kxs_ValueError e₂ (looks_opaque X₂ T.tp) (l₀ := .ref C :: bm) (fun A Q E s k q => wpAny_bind ((looks_clsIn X₂ hcl) A _ E s k (wpAny_pure q))) rfl X₂ hf (I₂.type.andThen (looks_subIn X₂ T.vC)) naC (by decide) ?_
  have k₃ : ∀ b o, h₂.get? b = some o → (h₂.push (kxs_mw "ValueError.__init__" a)).get? b = some o := fun b o e => Heap.get?_push_of_some _ e
  refine kxs_callWith (i := "ValueError.__init__") (x := a) rfl (evalArgs_plain ?_)
  have hns₂ : ((h₂.push (kxs_mw "ValueError.__init__" a)).Ns s.heap.objs.size fun x => ([("self", Value.ref a), ("place", v)] : List (Str × Value)).reverse.lookup x) := by
    obtain ⟨oL, es, ep, hL, r⟩ := hns₁
    exact ⟨oL, es, ep, k₃ _ _ (k₂ _ _ hL), r⟩
  refine Calls.spliced_cons (ESX.ldL (m := fun x => ([("self", Value.ref a), ("place", v)] : List (Str × Value)).reverse.lookup x) hns₂ hfl ?_ rfl T.nm.l2 T.nm.nd)
  refine Calls.spliced_nil ?_
  refine ⟨Heap.get?_push_size _ rfl, ?_⟩
  refine call_bw (k₃ _ _ (X₂ _ _ hC)) (k₃ _ _ ha₂) (Heap.get?_push_size _ rfl) (one_size v) (fun h₄ t1 k₄ ha₄ => ?_)
  have kall : ∀ b o, b ≠ a → s.heap.get? b = some o → h₄.get? b = some o := fun b o hb e => k₄ b o hb (k₃ _ _ (k₂ _ _ (k₁ _ _ e)))
  have X₄ : K.In h₄ := fun b o e => kall b o (fun z => by rw [z, hna] at e; cases e) (X b o e)
  have hL : s.heap.objs.size ≠ a := Nat.ne_of_gt (Heap.lt_size ha)
  have hns₄ : h₄.Ns s.heap.objs.size fun x => ([("self", Value.ref a), ("place", v)] : List (Str × Value)).reverse.lookup x := by
    obtain ⟨oL, es, ep, hL', r⟩ := hns₂
    exact ⟨oL, es, ep, k₄ _ _ hL hL', r⟩
  refine ks_wpAt_execs_cons (wpAt_of_wpAny (plainObj_wpAny_Assign_Attribute ?_))
  refine ESX.ldL (m := fun x => ([("self", Value.ref a), ("place", v)] : List (Str × Value)).reverse.lookup x) hns₄ hfl ?_ rfl T.nm.l2 T.nm.nd
  refine ESX.ldL (m := fun x => ([("self", Value.ref a), ("place", v)] : List (Str × Value)).reverse.lookup x) hns₄ hsl ?_ rfl T.nm.l1 (by decide)
  refine set_plain X₄ (ox := excO C t1) (od := none) ⟨ha₄, rfl, rfl, trivial⟩ T.sa ?_
  refine exc_osa X₄ ha₄ hcl (show refsVE (.ref C :: bm) = true from hbm) rfl T.noF (fun h₅ tk₅ dx k₅ dn dne hx₅ hn₅ => ?_)
  refine wpAt_of_wpAny (wpAny_execs_nil ?_)
  have zL : s.heap.objs.size < h₄.objs.size := hns₄.lt
  exact hq h₅ tk₅ dx t1 ⟨fun b o hb e => k₅ b o hb (kall b o hb e), hx₅, Nat.le_of_lt (Nat.lt_of_lt_of_le zL dn), dne, hn₅⟩
theorem xs_made_place (T : XsTxt prog K mg x "place" C fI) {v : Value} (X : K.In s.heap) (G : s.heap.Ns mainGlobals mg) (B : s.heap.Ns builtinsNs mb) (hB : mb "super" = some (.type "super")) (hlim : s.heap.NoLimit) (hroom : A.depth + 1 < recursionLimit)
    (hq : ∀ h' tk e d, OwnMade s.heap h' e C d "place" v → R (.ok (.ret (.ref e))) { s with heap := h', toks := tk }) :
    codeAny (model prog w) A (.call (.ref C) ⟨[v], []⟩) R s := by
  obtain ⟨nm, q, N, bs, bm, sn, sub, ab, col, dd, k0, k1, k2, k3, k5, hC, hbm⟩ := T.cls
  obtain ⟨hp, g, dr, tk, os⟩ := s
  have k : ∀ b o, hp.get? b = some o → ((hp.push (kdv_tup [v])).push (excO C hp.objs.size)).get? b = some o := fun b o e => Heap.get?_push_of_some _ (Heap.get?_push_of_some _ e)
  have hget : ((hp.push (kdv_tup [v])).push (excO C hp.objs.size)).get? (hp.objs.size + 1) = some (excO C hp.objs.size) := by heap_get
  have hnx : K.lookup (hp.objs.size + 1) = none := by
    cases e : K.lookup (hp.objs.size + 1) with
    | none => rfl
    | some o =>
      have z : hp.get? (hp.objs.size + 1) = some o := X _ _ e
      exact absurd (Nat.lt_of_succ_lt (Heap.lt_size z)) (Nat.lt_irrefl _)
  refine call_own F.excBase_ValueError (fun X => refsVE_contains X bm hbm) (X _ _ hC) (looks_findIn X T.iC) (fun self => bind_fn X self T.tC) (one_size v) ?_
  refine xs_init_place (s := ⟨(hp.push (kdv_tup [v])).push (excO C hp.objs.size), g, dr, tk, os⟩) T (X.keeps k) (G.keeps k) (B.keeps k) hB (hlim.keeps k) hget hnx ?_ fun h' tk' dx t1 ⟨k', hx, dn, dne, hns⟩ => ?_
  · show A.depth + 1 < recursionLimit
    exact hroom
  · have old : ∀ b o, hp.get? b = some o → h'.get? b = some o := fun b o e => k' b o (Nat.ne_of_lt (Nat.lt_succ_of_lt (Heap.lt_size e))) (k b o e)
    have z : hp.objs.size + 1 + 1 ≤ dx := by
      first
        | (simpa only [Heap.size_push] using dn)
        | exact dn
        | (have q := dn; rw [Heap.size_push, Heap.size_push] at q; exact q)
    exact ⟨rfl, hq h' tk' (hp.objs.size + 1) dx ⟨old, Nat.le_succ _, ⟨_, _, hx, rfl, rfl, rfl, rfl, rfl, by simp⟩, Nat.le_trans (Nat.le_trans (Nat.le_succ _) (Nat.le_succ _)) z, dne, hns⟩⟩
theorem xs_init_line (T : XsTxt prog K mg x "line" C fI) {a t0 : Addr} {v : Value} (X : K.In s.heap) (G : s.heap.Ns mainGlobals mg) (B : s.heap.Ns builtinsNs mb) (hB : mb "super" = some (.type "super")) (hlim : s.heap.NoLimit) (ha : s.heap.get? a = some (excO C t0)) (hna : K.lookup a = none) (hroom : A.depth < recursionLimit)
    (hq : ∀ h' tk dx t1, InitEnd s.heap h' a C dx t1 "line" v → R (.ok (.ret .none)) { s with heap := h', toks := tk }) :
    codeAny (model prog w) A (.call (.ref fI) ⟨[.ref a, v], []⟩) R s := by
  obtain ⟨qual, oc, od, doc, pm, an, cda, cc, ct, osl, p1, p2, q0, q1, q2, q3, q4, q5, q6, q7, q8, q9, ccl, cdd, vs, ccs, file, tf, cl, cld, csl, ho, hcd, hcda, hvs, hfile, hcc, hln⟩ := T.fn
  obtain ⟨nm, q, N, bs, bm, sn, sub, ab, col, dd, k0, k1, k2, k3, k5, hC, hbm⟩ := T.cls
  have hcl : clsIn K C = some { name := nm, bases := bs, mro := .ref C :: bm, ns := N, qualname := q, hasDict := true, slotNames := sn, subclasses := sub, abstract := ab, collection := col, hasDel := false } := by unfold clsIn; rw [hC] <;> rfl
  have hns : mg "super" = none := mg_none_of X G T.sg
  refine ks_codeAny_call_defAt (fd := ksFn "__init__" qual (iA "line" p1 p2) (iB "line" q0 q1 q2 q3 q4 q5 q6 q7 q8 q9) (iS "line") .none .none doc pm an (.ref cda) ct cc) (body := iB "line" q0 q1 q2 q3 q4 q5 q6 q7 q8 q9)
    (binds := [("self", .ref a), ("line", v)]) hroom (X _ _ ho) rfl hlim (codeRec_of X hcd) rfl (BindsTo.of_eq (by first | rfl | with_unfolding_all rfl)) ?_ ?_ (fun h₁ hns₁ k₁ => ?_) rfl rfl rfl
  · intro y hy e
    have hy' : y ∈ [(PySem.Str.ofString "self", NameKind.local), ("line", .local), (PySem.Str.ofString "__class__", .free), (PySem.Str.ofString "super", .globalImplicit)] := hy
    simp only [List.mem_cons, List.not_mem_nil, or_false] at hy'
    rcases hy' with rfl | rfl | rfl | rfl <;> cases e
  · intro y hy
    rcases List.mem_cons.mp hy with rfl | hy
    · exact T.nm.l1
    · rcases List.mem_singleton.mp hy with rfl
      exact T.nm.l2
  have X₁ : K.In h₁ := X.keeps k₁
  have ha₁ := k₁ _ _ ha
  have hfl : ([("self", Value.ref a), ("line", v)] : List (Str × Value)).reverse.lookup ("line" : Str) = some v := by
    show ([("line", v), ("self", Value.ref a)] : List (Str × Value)).lookup ("line" : Str) = some v
    simp [List.lookup]
  have hsl : ([("self", Value.ref a), ("line", v)] : List (Str × Value)).reverse.lookup ("self" : Str) = some (.ref a) := by
    show ([("line", v), ("self", Value.ref a)] : List (Str × Value)).lookup ("self" : Str) = some (.ref a)
    have e : (("self" : Str) == ("line" : Str)) = false := by simpa using T.nm.ne
    simp [List.lookup, e]
  have I₁ : InstAt h₁ a (excO C t0) C none := ⟨ha₁, rfl, rfl, trivial⟩
  refine ks_wpAt_execs_cons (ks_wpAt_Expr_any (ks_wpAt_MethodCall ?_ (mc_eq hln)))
  refine ks_wpAt_super_base T.nm.l4 T.nm.l3 (by decide) rfl (X₁ _ _ ho) rfl rfl rfl (X₁ _ _ hcda) rfl hvs hfile T.top ?_
  refine ks_loadName_global rfl T.nm.l4 (loadGlobal_builtin (G.keeps k₁) hns (B.keeps k₁) hB ⟨rfl, ?_⟩)
  refine wpAny_loadName_free rfl T.nm.l3 (by rfl) ⟨_, X₁ _ _ hcc, rfl⟩ ?_
  refine wpAny_loadName_local rfl T.nm.l1 hns₁ hsl ?_
  refine ks_wpAny_isType_cls (X₁ _ _ hC) rfl ⟨rfl, ?_⟩
  refine ks_wpAny_call_super (X₁ _ _ hC) rfl I₁.at_ I₁.cls (fun c e => by cases e) (looks_mroIn X₁ T.mC) (fun h₂ e₂ k₂ => ?_)
  have X₂ : K.In h₂ := X₁.keeps k₂
  have ha₂ := k₂ _ _ ha₁
  have I₂ : InstAt h₂ a (excO C t0) C none := ⟨ha₂, rfl, rfl, trivial⟩
  have hf : alongIn K "__init__" (((Value.ref C :: bm).dropWhile (· != .ref C)).drop 1) = some (some (.builtin "ValueError.__init__")) := by
    have z := T.sup
    unfold ks_superIn at z
    rw [hcl] at z
    exact z
  have naC : a ≠ C := fun z => by rw [z, hC] at hna; cases hna
  refine kxs_getMethod kxs_ValueError e₂ (looks_opaque X₂ T.tp) (l₀ := .ref C :: bm) (fun A Q E s k q => wpAny_bind ((looks_clsIn X₂ hcl) A _ E s k (wpAny_pure q))) rfl X₂ hf (I₂.type.andThen (looks_subIn X₂ T.vC)) naC (by decide) ?_
  have k₃ : ∀ b o, h₂.get? b = some o → (h₂.push (kxs_mw "ValueError.__init__" a)).get? b = some o := fun b o e => Heap.get?_push_of_some _ e
  refine kxs_callWith (i := "ValueError.__init__") (x := a) rfl (evalArgs_plain ?_)
  have hns₂ : ((h₂.push (kxs_mw "ValueError.__init__" a)).Ns s.heap.objs.size fun x => ([("self", Value.ref a), ("line", v)] : List (Str × Value)).reverse.lookup x) := by
    obtain ⟨oL, es, ep, hL, r⟩ := hns₁
    exact ⟨oL, es, ep, k₃ _ _ (k₂ _ _ hL), r⟩
  refine Calls.spliced_cons (ESX.ldL (m := fun x => ([("self", Value.ref a), ("line", v)] : List (Str × Value)).reverse.lookup x) hns₂ hfl ?_ rfl T.nm.l2 T.nm.nd)
  refine Calls.spliced_nil ?_
  refine ⟨Heap.get?_push_size _ rfl, ?_⟩
  refine call_bw (k₃ _ _ (X₂ _ _ hC)) (k₃ _ _ ha₂) (Heap.get?_push_size _ rfl) (one_size v) (fun h₄ t1 k₄ ha₄ => ?_)
  have kall : ∀ b o, b ≠ a → s.heap.get? b = some o → h₄.get? b = some o := fun b o hb e => k₄ b o hb (k₃ _ _ (k₂ _ _ (k₁ _ _ e)))
  have X₄ : K.In h₄ := fun b o e => kall b o (fun z => by rw [z, hna] at e; cases e) (X b o e)
  have hL : s.heap.objs.size ≠ a := Nat.ne_of_gt (Heap.lt_size ha)
  have hns₄ : h₄.Ns s.heap.objs.size fun x => ([("self", Value.ref a), ("line", v)] : List (Str × Value)).reverse.lookup x := by
    obtain ⟨oL, es, ep, hL', r⟩ := hns₂
    exact ⟨oL, es, ep, k₄ _ _ hL hL', r⟩
  refine ks_wpAt_execs_cons (wpAt_of_wpAny (plainObj_wpAny_Assign_Attribute ?_))
  refine ESX.ldL (m := fun x => ([("self", Value.ref a), ("line", v)] : List (Str × Value)).reverse.lookup x) hns₄ hfl ?_ rfl T.nm.l2 T.nm.nd
  refine ESX.ldL (m := fun x => ([("self", Value.ref a), ("line", v)] : List (Str × Value)).reverse.lookup x) hns₄ hsl ?_ rfl T.nm.l1 (by decide)
  refine set_plain X₄ (ox := excO C t1) (od := none) ⟨ha₄, rfl, rfl, trivial⟩ T.sa ?_
  refine exc_osa X₄ ha₄ hcl (show refsVE (.ref C :: bm) = true from hbm) rfl T.noF (fun h₅ tk₅ dx k₅ dn dne hx₅ hn₅ => ?_)
  refine wpAt_of_wpAny (wpAny_execs_nil ?_)
  have zL : s.heap.objs.size < h₄.objs.size := hns₄.lt
  exact hq h₅ tk₅ dx t1 ⟨fun b o hb e => k₅ b o hb (kall b o hb e), hx₅, Nat.le_of_lt (Nat.lt_of_lt_of_le zL dn), dne, hn₅⟩
theorem xs_made_line (T : XsTxt prog K mg x "line" C fI) {v : Value} (X : K.In s.heap) (G : s.heap.Ns mainGlobals mg) (B : s.heap.Ns builtinsNs mb) (hB : mb "super" = some (.type "super")) (hlim : s.heap.NoLimit) (hroom : A.depth + 1 < recursionLimit)
    (hq : ∀ h' tk e d, OwnMade s.heap h' e C d "line" v → R (.ok (.ret (.ref e))) { s with heap := h', toks := tk }) :
    codeAny (model prog w) A (.call (.ref C) ⟨[v], []⟩) R s := by
  obtain ⟨nm, q, N, bs, bm, sn, sub, ab, col, dd, k0, k1, k2, k3, k5, hC, hbm⟩ := T.cls
  obtain ⟨hp, g, dr, tk, os⟩ := s
  have k : ∀ b o, hp.get? b = some o → ((hp.push (kdv_tup [v])).push (excO C hp.objs.size)).get? b = some o := fun b o e => Heap.get?_push_of_some _ (Heap.get?_push_of_some _ e)
  have hget : ((hp.push (kdv_tup [v])).push (excO C hp.objs.size)).get? (hp.objs.size + 1) = some (excO C hp.objs.size) := by heap_get
  have hnx : K.lookup (hp.objs.size + 1) = none := by
    cases e : K.lookup (hp.objs.size + 1) with
    | none => rfl
    | some o =>
      have z : hp.get? (hp.objs.size + 1) = some o := X _ _ e
      exact absurd (Nat.lt_of_succ_lt (Heap.lt_size z)) (Nat.lt_irrefl _)
  refine call_own F.excBase_ValueError (fun X => refsVE_contains X bm hbm) (X _ _ hC) (looks_findIn X T.iC) (fun self => bind_fn X self T.tC) (one_size v) ?_
  refine xs_init_line (s := ⟨(hp.push (kdv_tup [v])).push (excO C hp.objs.size), g, dr, tk, os⟩) T (X.keeps k) (G.keeps k) (B.keeps k) hB (hlim.keeps k) hget hnx ?_ fun h' tk' dx t1 ⟨k', hx, dn, dne, hns⟩ => ?_
  · show A.depth + 1 < recursionLimit
    exact hroom
  · have old : ∀ b o, hp.get? b = some o → h'.get? b = some o := fun b o e => k' b o (Nat.ne_of_lt (Nat.lt_succ_of_lt (Heap.lt_size e))) (k b o e)
    have z : hp.objs.size + 1 + 1 ≤ dx := by
      first
        | (simpa only [Heap.size_push] using dn)
        | exact dn
        | (have q := dn; rw [Heap.size_push, Heap.size_push] at q; exact q)
    exact ⟨rfl, hq h' tk' (hp.objs.size + 1) dx ⟨old, Nat.le_succ _, ⟨_, _, hx, rfl, rfl, rfl, rfl, rfl, by simp⟩, Nat.le_trans (Nat.le_trans (Nat.le_succ _) (Nat.le_succ _)) z, dne, hns⟩⟩
end
end XsX
end PySem
end

section
namespace SH
open PySem PySem.Spec PyProof.Rows L2
/-- the class at C makes its errors: one value v, kept in the field f -/
structure XsOk (prog : Program) (w : World) (K : PySem.W.Frag) (mg : Str → Option Value) (x f : Str) (C : Addr) : Prop where
  made : ∀ (A : Around) (R : Result → Shared → Prop) (s : Shared) (mb : Str → Option Value) (v : Value), K.In s.heap → s.heap.Ns mainGlobals mg → s.heap.Ns builtinsNs mb → mb "super" = some (.type "super") → s.heap.NoLimit → A.depth + 1 < recursionLimit →
    (∀ h' tk e d, PySem.XsX.OwnMade s.heap h' e C d f v → R (.ok (.ret (.ref e))) { s with heap := h', toks := tk }) → codeAny (model prog w) A (.call (.ref C) ⟨[v], []⟩) R s
  gC : mg x = some (.ref C)
  kC : PySem.W.keepIn K (.ref C) = true
  exC : PySem.W.subIn K (.ref C) (.type "BaseException") = some true
  tyC : PySem.W.typeIn K (.ref C) = some (.type "type")
theorem relO_one {v : V} {v' : Value} {g : Str} (r : RelV v v') (f : Str) : RelO (List.lookup f [(g, v)]) (if f = g then some v' else none) := by
  by_cases hw : f = g
  · subst hw
    rw [if_pos rfl]
    have q : List.lookup f [(f, v)] = some v := by simp [List.lookup]
    rw [q]
    exact r
  · rw [if_neg hw]
    have qw : (f == g) = false := by simpa using hw
    have q2 : List.lookup f [(g, v)] = none := by simp [List.lookup, qw]
    rw [q2]
    trivial
/-- x(e) -/
def tXs (C : Addr) (f : Str) (ta : TA) : L2.St → Hp → XK → Prop := fun σ H Q => ta σ H fun vs H1 => ∃ v, vs = [v] ∧ ∀ d, H1 d = none → Q (.ref C) (some d) (upd H1 d (.xd [(f, v)]))
section
variable {X : Cx} {C : Addr} {x f : Str}
theorem pmk_xs {a : Expr} {ta : TA} {p pos : Pos} (T : XsOk X.prog X.w X.K X.mg x f C) (hr : Room 0 X.A) (ha : PA X [a] ta) (hg : Gl X x := by rfl) (hdb : (x == ("__debug__" : Str)) = false := by decide)
    (he : starEach (a :: []) X.env = (false, eval a X.env) :: starEach [] X.env := by rfl) (hpl : (backTo pos (starEach [] X.env)).any (·.1) = false := by rfl) :
    L2N.PMk X (.Call (.Name x p) [a] [] pos) (tXs C f ta) := by
  intro pins s σ H Q I h
  refine wpAny_Call_Name_kw (ld_glob I hg T.gC ?_ hdb)
  refine PySem.W.callWith_K (h₀ := X.base) I.ok.mod.kin T.kC (thn (ha.run pos pins s σ H _ I h) fun us s1 hh => ?_) he hpl
  obtain ⟨vs, H1, I1, r1, v, ev, q1⟩ := hh
  subst ev
  refine ⟨I1.kIn, ?_⟩
  cases r1 with
  | cons rv rn =>
    rename_i v' us'
    cases rn
    show wpAny _ _ (call (.ref C) [v']) _ _ _
    have hlim := I1.nolimit
    obtain ⟨mb, b1, b2⟩ := I1.mod.blt
    have hGl := I1.mod.glob.keeps I1.bk
    have hBl := b1.keeps I1.bk
    have hsu : mb "super" = some (.type "super") := (b2 "super" (by decide)).trans (by decide +kernel)
    obtain ⟨hp, g, dr, tk, os⟩ := s1
    refine wpAny_call (T.made X.A _ _ mb v' I1.kIn hGl hBl hsu hlim (by have := hr.dp; omega) fun h' tk' e d M => ?_)
    show L2N.MkP X pins σ Q (.ref e) ⟨h', g, dr, tk', os⟩
    obtain ⟨oe, fv, hoe, hc, hd, hdat, h1, h2, h5⟩ := M.obj
    have hns := M.ns
    obtain ⟨G', g1, g2⟩ := restrict h' fun b => decide (b ≠ e)
    have gk : ∀ b, b ≠ e → G'.get? b = h'.get? b := fun b hb => g1 b (decide_eq_true hb)
    have ge : G'.get? e = none := g2 e (by simp)
    have old : ∀ b o, hp.get? b = some o → G'.get? b = some o := fun b o q => (gk b (Nat.ne_of_lt (Nat.lt_of_lt_of_le (Heap.lt_size q) M.new))).trans (M.keep b o q)
    have ob : ObjOk X.prog X.w (upd H1 d (.xd [(f, v)])) G' d (.xd [(f, v)]) :=
      ⟨_, hns.at (fun o q => (gk d M.dne).trans q), fun g => relO_one rv g⟩
    have J : Inv X pins σ (upd H1 d (.xd [(f, v)])) ⟨G', g, dr, tk', os⟩ := I1.laid (t' := tk') old M.dbig ob
    refine ⟨e, oe, fv, ⟨G', g, dr, tk', os⟩, _, .ref C, some d, rfl, J, fun b o q => ?_, ge, hoe, ⟨hc, hd, fun vs e => by rw [hdat] at e; cases e; exact h2⟩, hdat, h1, ?_, rfl, I1.bare, raises_own T.exC T.tyC, q1 d (I1.hok.fresh M.dbig)⟩
    · by_cases hb : b = e
      · have q' : G'.get? b = some o := q
        rw [hb, ge] at q'; cases q'
      · exact (gk b hb).symm.trans q
    · rw [upd_ne (Ne.symm M.dne)]
      exact I1.hok.fresh M.new
/-- raise x(e) -/
def tRaiseXs (C : Addr) (f : Str) (W : WX) (ta : TA) : TS := fun _ σ H => tXs C f ta σ H fun cls d H' => W cls d σ H'
theorem ps_raiseXs {a : Expr} {ta : TA} {W : WX} {p pos pos2 : Pos} (hc : X.calm = true) (T : XsOk X.prog X.w X.K X.mg x f C) (hr : Room 0 X.A) (tk : L2N.Takes X W) (ha : PA X [a] ta) (hg : Gl X x := by rfl) (hdb : (x == ("__debug__" : Str)) = false := by decide)
    (he : starEach (a :: []) X.env = (false, eval a X.env) :: starEach [] X.env := by rfl) (hpl : (backTo pos (starEach [] X.env)).any (·.1) = false := by rfl) :
    PS X (.Raise (some (.Call (.Name x p) [a] [] pos)) none pos2) (tRaiseXs C f W ta) := L2N.ps_raise hc tk (pmk_xs T hr ha hg hdb he hpl)
end
section
variable {σ : L2.St} {H : Hp} {C : Addr} {f : Str} {W : WX} {ta : TA} {v : V} {N R Bk Ct}
theorem g_raise (q : ta σ H fun vs H1 => ∃ v, vs = [v] ∧ ∀ d, H1 d = none → W (.ref C) (some d) σ (upd H1 d (.xd [(f, v)]))) : tRaiseXs C f W ta ⟨N, R, Bk, Ct⟩ σ H := q
theorem g_rs {M : V → Prop} (q : M v) : ∃ v', [v] = [v'] ∧ M v' := ⟨v, rfl, q⟩
end
end SH
namespace SH
open PySem PySem.Spec PyProof.Rows L2
theorem nm_name : PySem.XsX.NmOk "name" := ⟨by decide +kernel, by decide +kernel, by decide +kernel, by decide +kernel, by decide +kernel, by decide +kernel⟩
theorem xsok_name {prog : Program} {w : World} {K : PySem.W.Frag} {mg : Str → Option Value} {x : Str} {C fI : Addr} (T : PySem.XsX.XsTxt prog K mg x "name" C fI) : XsOk prog w K mg x "name" C where
  made := fun A R s mb v X G B hB hl hr hq => PySem.XsX.xs_made_name T X G B hB hl hr hq
  gC := T.gC
  kC := T.kC
  exC := T.exC
  tyC := T.tyC
theorem nm_word : PySem.XsX.NmOk "word" := ⟨by decide +kernel, by decide +kernel, by decide +kernel, by decide +kernel, by decide +kernel, by decide +kernel⟩
theorem xsok_word {prog : Program} {w : World} {K : PySem.W.Frag} {mg : Str → Option Value} {x : Str} {C fI : Addr} (T : PySem.XsX.XsTxt prog K mg x "word" C fI) : XsOk prog w K mg x "word" C where
  made := fun A R s mb v X G B hB hl hr hq => PySem.XsX.xs_made_word T X G B hB hl hr hq
  gC := T.gC
  kC := T.kC
  exC := T.exC
  tyC := T.tyC
theorem nm_place : PySem.XsX.NmOk "place" := ⟨by decide +kernel, by decide +kernel, by decide +kernel, by decide +kernel, by decide +kernel, by decide +kernel⟩
theorem xsok_place {prog : Program} {w : World} {K : PySem.W.Frag} {mg : Str → Option Value} {x : Str} {C fI : Addr} (T : PySem.XsX.XsTxt prog K mg x "place" C fI) : XsOk prog w K mg x "place" C where
  made := fun A R s mb v X G B hB hl hr hq => PySem.XsX.xs_made_place T X G B hB hl hr hq
  gC := T.gC
  kC := T.kC
  exC := T.exC
  tyC := T.tyC
theorem nm_line : PySem.XsX.NmOk "line" := ⟨by decide +kernel, by decide +kernel, by decide +kernel, by decide +kernel, by decide +kernel, by decide +kernel⟩
theorem xsok_line {prog : Program} {w : World} {K : PySem.W.Frag} {mg : Str → Option Value} {x : Str} {C fI : Addr} (T : PySem.XsX.XsTxt prog K mg x "line" C fI) : XsOk prog w K mg x "line" C where
  made := fun A R s mb v X G B hB hl hr hq => PySem.XsX.xs_made_line T X G B hB hl hr hq
  gC := T.gC
  kC := T.kC
  exC := T.exC
  tyC := T.tyC
end SH
end

section
namespace Hq
open PySem PySem.Spec PyProof.Rows L2 He
/-! ### the head's facts, with own errors whose __init__ closes over its class -/
structure XD where
  x : Str
  f : Str
  qual : Str
  params : Arguments
  body : List Stmt
  scope : Scope
abbrev FnC : Type := Option (Str × Str × Arguments × FuncBody × Scope × Addr × List Str × Addr)
def XD.p (d : XD) : Str × Option Str := (d.x, some "__init__")
def fnC (K : PySem.W.Frag) (p : Str × Option Str) : FnC := match K.lookup (fAd K p) with
  | some ⟨_, _, .func fd, _⟩ => some (fd.name, fd.qualname, fd.params, fd.body, fd.scope, fd.globals, fd.closure.map (·.1), fd.builtins)
  | _ => none
def XD.val (d : XD) : FnC := some ("__init__", d.qual, d.params, .stmts d.body, d.scope, mainGlobals, ["__class__"], builtinsNs)
def newB (l : List (Option Value)) : Bool := match l with
  | [_, _, _, _, some (.builtin b), _] => decide (b = "ValueError.__new__")
  | _ => false
theorem newB_ok : ∀ {l : List (Option Value)}, newB l = true → ∃ a0 a1 a2 a3 a5, l = [a0, a1, a2, a3, some (.builtin "ValueError.__new__"), a5]
  | [], h => by cases h
  | [_], h => by cases h
  | [_, _], h => by cases h
  | [_, _, _], h => by cases h
  | [_, _, _, _], h => by cases h
  | [_, _, _, _, _], h => by simp [newB] at h
  | _ :: _ :: _ :: _ :: _ :: _ :: _ :: _, h => by simp [newB] at h
  | [a0, a1, a2, a3, a4, a5], h => by
    cases a4 with
    | none => cases h
    | some v =>
      cases v with
      | builtin b =>
        obtain rfl : b = "ValueError.__new__" := of_decide_eq_true h
        exact ⟨a0, a1, a2, a3, a5, rfl⟩
      | _ => cases h
/-- the class's own object -/
def clsB (K : PySem.W.Frag) (C : Addr) : Bool := match K.lookup C with
  | some ⟨.type t, _, .cls cd, sl⟩ => decide (t = "type") && (cd.hasDict && (!cd.hasDel && ((match cd.mro with
    | .ref c :: bm => decide (c = C) && PySem.HandSPX.refsVE bm
    | _ => false) && newB sl.toList)))
  | _ => false
theorem clsB_ok {K : PySem.W.Frag} {C : Addr} (h : clsB K C = true) : ∃ nm q N bs bm sn sub ab col dd k0 k1 k2 k3 k5, K.lookup C = some (excClassObj nm q C N bs bm true sn sub ab col dd k0 k1 k2 k3 k5 "ValueError.__new__") ∧ PySem.HandSPX.refsVE bm = true := by
  unfold clsB at h
  cases q : K.lookup C with
  | none => rw [q] at h; cases h
  | some o =>
    obtain ⟨oc, od, dt, sl⟩ := o
    rw [q] at h
    cases oc with
    | type t =>
      cases dt with
      | cls cd =>
        obtain ⟨h1, h⟩ := ba h
        obtain ⟨h2, h⟩ := ba h
        obtain ⟨h3, h⟩ := ba h
        obtain ⟨h4, h5⟩ := ba h
        obtain ⟨nm, bs, mro, ns, qn, hd, sn, sub, ab, col, del⟩ := cd
        simp only at h2 h3 h4
        obtain rfl : t = "type" := of_decide_eq_true h1
        subst h2
        obtain rfl : del = false := by cases del with
          | false => rfl
          | true => cases h3
        cases mro with
        | nil => cases h4
        | cons v bm =>
          cases v with
          | ref c =>
            obtain ⟨h6, h7⟩ := ba h4
            obtain rfl : c = C := of_decide_eq_true h6
            obtain ⟨sll⟩ := sl
            obtain ⟨a0, a1, a2, a3, a5, e⟩ := newB_ok h5
            have e2 : sll = [a0, a1, a2, a3, some (.builtin "ValueError.__new__"), a5] := e
            subst e2
            exact ⟨nm, qn, ns, bs, bm, sn, sub, ab, col, od, a0, a1, a2, a3, a5, rfl, h7⟩
          | _ => cases h4
      | _ => cases h
    | _ => cases dt <;> cases h
/-- the def: no defaults, its code's file, its cell -/
def fnB (prog : Program) (K : PySem.W.Frag) (d : XD) : Bool := match K.lookup (fAd K d.p) with
  | some ⟨_, _, .func fd, _⟩ => (match fd.defaults, fd.kwdefaults, fd.closure, fd.code with
    | .none, .none, [(_, cc)], .ref cda => PySem.W.codeIn K (.ref cda) d.qual && ((match K.lookup cda with
      | some ⟨_, _, .fields vs, _⟩ => (match (vs[2]? : Option Value) with
        | some (.str file _) => (prog.main.file : Str) == file
        | _ => false)
      | _ => false) && (match K.lookup cc with
      | some ⟨_, _, .cell (some (.ref c)), _⟩ => decide (c = ga K d.x)
      | _ => false))
    | _, _, _, _ => false)
  | _ => false
def txtB (prog : Program) (K : PySem.W.Frag) (d : XD) : Bool :=
  fnB prog K d && (clsB K (ga K d.x) && ([eqO (PySem.W.nsIn K mainGlobals d.x) (some (some (.ref (ga K d.x)))), decide (PySem.W.ks_superIn K (ga K d.x) (ga K d.x) "__init__" = some (some (.builtin "ValueError.__init__"))),
    eqO (PySem.W.findIn K (.ref (ga K d.x)) "__setattr__") (some (some (.builtin "object.__setattr__"))), eqO (PySem.W.findIn K (.ref (ga K d.x)) d.f) (some none),
    eqO (PySem.W.findIn K (.ref (ga K d.x)) "__init__") (some (some (.ref (fAd K d.p)))), decide (PySem.W.typeIn K (.ref (fAd K d.p)) = some (.type "function")), PySem.W.keepIn K (.ref (ga K d.x)),
    decide (PySem.W.subIn K (.ref (ga K d.x)) (.type "BaseException") = some true), decide (PySem.W.subIn K (.ref (ga K d.x)) (.type "ValueError") = some true), decide (PySem.W.mroIn K (ga K d.x) (.ref (ga K d.x)) = some true),
    decide (PySem.W.typeIn K (.ref (ga K d.x)) = some (.type "type")), !(prog.main.scope.names.lookup ("super" : Str)).isSome, eqO (PySem.W.nsIn K mainGlobals "super") (some none), eqO (PySem.W.nsIn K cStatics "thirdparty.any") (some none)].all id))
theorem txtB_ok {prog : Program} {K : PySem.W.Frag} {h : Heap} {mg : Str → Option Value} {d : XD} (X : K.In h) (G : h.Ns mainGlobals mg) (nm : PySem.XsX.NmOk d.f) (e : fnC K d.p = d.val) (c : txtB prog K d = true)
    {p1 p2 q0 q1 q2 q3 q4 q5 q6 q7 q8 q9 : Pos} (ea : d.params = PySem.XsX.iA d.f p1 p2) (eb : d.body = PySem.XsX.iB d.f q0 q1 q2 q3 q4 q5 q6 q7 q8 q9) (es : d.scope = PySem.XsX.iS d.f) (el : (q2.endLine == q4.line) = true) :
    PySem.XsX.XsTxt prog K mg d.x d.f (ga K d.x) (fAd K d.p) := by
  obtain ⟨hf, c⟩ := ba c
  obtain ⟨hc, c⟩ := ba c
  simp only [List.all_cons, List.all_nil, Bool.and_true, Bool.and_eq_true, id_eq, decide_eq_true_eq, Bool.not_eq_true'] at c
  obtain ⟨c1, c2, c3, c4, c5, c6, c7, c8, c9, c10, c11, c12, c13, c14⟩ := c
  refine ⟨nm, PySem.W.mg_of X G (eqO_ok c1), clsB_ok hc, c2, eqO_ok c3, eqO_ok c4, eqO_ok c5, c6, c7, c8, c9, c10, c11, c12, eqO_ok c13, eqO_ok c14, ?_⟩
  unfold fnB at hf
  unfold fnC at e
  cases q : K.lookup (fAd K d.p) with
  | none => rw [q] at hf; cases hf
  | some o =>
    obtain ⟨oc, od, dt, osl⟩ := o
    rw [q] at hf e
    cases dt with
    | func fd =>
      obtain ⟨n1, n2, n3, n4, n5, n6, n7, n8, n9, n10, n11, n12, n13, n14, n15⟩ := fd
      have e2 : (some (n1, n2, n3, n4, n5, n6, n7.map (·.1), n15) : FnC) = some (("__init__" : Str), d.qual, d.params, FuncBody.stmts d.body, d.scope, mainGlobals, (["__class__"] : List Str), builtinsNs) := e
      simp only [Option.some.injEq, Prod.mk.injEq] at e2
      obtain ⟨h1, h2, h3, h4, h5, h6, h7, h8⟩ := e2
      simp only at hf
      split at hf
      · rename_i y cc cda
        obtain ⟨k1, hf⟩ := ba hf
        obtain ⟨k2, k3⟩ := ba hf
        have hy : y = "__class__" := by simpa using h7
        cases qa : K.lookup cda with
        | none => rw [qa] at k2; cases k2
        | some oa =>
          obtain ⟨ac, ad, adt, asl⟩ := oa
          rw [qa] at k2
          cases adt with
          | fields vs =>
            simp only at k2
            cases qv : vs[2]? with
            | none => rw [qv] at k2; cases k2
            | some vv =>
              rw [qv] at k2
              cases vv with
              | str file tf =>
                cases qb : K.lookup cc with
                | none => rw [qb] at k3; cases k3
                | some ob =>
                  obtain ⟨bc, bd, bdt, bsl⟩ := ob
                  rw [qb] at k3
                  cases bdt with
                  | cell cv =>
                    cases cv with
                    | none => cases k3
                    | some cv =>
                      cases cv with
                      | ref c0 =>
                        have hc0 : c0 = ga K d.x := of_decide_eq_true k3
                        subst h1 h2 h3 h4 h5 h6 h8 hy
                        subst hc0
                        refine ⟨d.qual, oc, od, n10, n11, n12, cda, cc, n14, osl, p1, p2, q0, q1, q2, q3, q4, q5, q6, q7, q8, q9, ac, ad, vs, asl, file, tf, bc, bd, bsl, ?_, k1, qa, qv, k2, qb, el⟩
                        rw [ea, eb, es]
                      | _ => cases k3
                  | _ => cases k3
              | _ => cases k2
          | _ => cases k2
      · cases hf
    | _ => cases hf
/-! ### the Hook -/
abbrev AlQ : Type := AlD × Bool × List FnC
def obsQ (fa : List Fa) (fn : List DefD) (xs : List XD) (ex : PySem.W.Frag → Bool) (prog : Program) (K : PySem.W.Frag) : AlQ := (obsD fa fn K, ex K && xs.all fun d => txtB prog K d, xs.map fun d => fnC K d.p)
def valQ (fn : List DefD) (xs : List XD) : AlQ := (valD fn, true, xs.map XD.val)
def frQ (n : Nat) (g : Addr → Option Obj) : PySem.W.Frag := frG g (cStatics :: asD g n)
def hookQ (n : Nat) (fa : List Fa) (fn : List DefD) (xs : List XD) (ex : PySem.W.Frag → Bool) (prog : Program) : PySem.W.Hook where
  α := AlQ
  obs := fun s => obsQ fa fn xs ex prog (frQ n s.heap.get?)
  val := fun _ => valQ fn xs
  says := fun _ h => ∃ K : PySem.W.Frag, K.In h ∧ obsQ fa fn xs ex prog K = valQ fn xs
  of := fun _ _ e => ⟨_, frG_in, e⟩
  keeps := fun _ _ _ ⟨K, hK, c⟩ k => ⟨K, PySem.W.Frag.In.keeps hK k, c⟩
section
variable {fa : List Fa} {fn : List DefD} {xs : List XD} {ex : PySem.W.Frag → Bool} {prog : Program} {K : PySem.W.Frag}
theorem says_d (c : obsQ fa fn xs ex prog K = valQ fn xs) : SaysD fa fn K := congrArg (fun z : AlQ => z.1) c
theorem says_ex (c : obsQ fa fn xs ex prog K = valQ fn xs) : ex K = true := (ba (congrArg (fun z : AlQ => z.2.1) c : (ex K && xs.all fun d => txtB prog K d) = true)).1
theorem says_x (c : obsQ fa fn xs ex prog K = valQ fn xs) {d : XD} (h : d ∈ xs) : fnC K d.p = d.val ∧ txtB prog K d = true := by
  have c1 := List.all_eq_true.mp (ba (congrArg (fun z : AlQ => z.2.1) c : (ex K && xs.all fun d => txtB prog K d) = true)).2 d h
  refine ⟨?_, c1⟩
  have e : xs.map (fun d => fnC K d.p) = xs.map XD.val := congrArg (fun z : AlQ => z.2.2) c
  obtain ⟨i, hi, rfl⟩ := List.mem_iff_getElem.mp h
  have e2 : (xs.map fun d => fnC K d.p)[i]? = (xs.map XD.val)[i]? := by rw [e]
  rw [List.getElem?_map, List.getElem?_map, List.getElem?_eq_getElem hi] at e2
  exact Option.some.inj e2
theorem facts_d (c : SaysD fa fn K) {f : Fa} (h : f ∈ fa) : f.ok K = true := SaysD.facts c h
end
end Hq
end

section
/-! #### the walk's words -/
local macro_rules | `(tactic| walk_at "ne0") => `(tactic| first
  | assumption
  | (refine Ne.symm ?_; assumption))
local macro_rules | `(tactic| walk_at "ne") => `(tactic| first
  | assumption
  | (refine Ne.symm ?_; assumption)
  | (refine' L2.ne_of_none ?gx (by assumption); (case gx => walk_at "hp"))
  | (refine' Ne.symm (L2.ne_of_none ?gx (by assumption)); (case gx => walk_at "hp")))
local macro_rules | `(tactic| walk_at "hp") => `(tactic| first
  | assumption
  | exact L2.upd_same
  | (refine' SH.upd_new ?gh (by assumption); (case gh => walk_at "hp"))
  | (refine' (L2.upd_ne ?gn).trans ?gh; (case gn => walk_at "ne0"); (case gh => walk_at "hp"))
  | (refine' SH.Off.at (by assumption) ?gn ?gh; (case gn => walk_at "nin"); (case gh => walk_at "hp")))
local macro_rules | `(tactic| walk_at "nin") => `(tactic| first
  | exact SH.nin_nil
  | (refine SH.nin_cons ?_ ?_; (· walk_at "ne0"); (· walk_at "nin")))
local macro_rules | `(tactic| walk_at "sq") => `(tactic| first
  | assumption
  | (apply L2.SqL.of; (· walk_at "hp"))
  | (apply L2.SqT.of; (· walk_at "hp"))
  | (refine' SH.seqT_new ?gx (by assumption); (case gx => walk_at "sq"))
  | (refine' SH.seqL_new ?gx (by assumption); (case gx => walk_at "sq"))
  | (refine' SH.Off.seqT (by assumption) ?gx; (case gx => walk_at "sq"))
  | (refine' SH.Off.seqL (by assumption) ?gy ?gx; (case gx => walk_at "sq"); (case gy => walk_at "nin")))
local macro_rules | `(tactic| walk_at "kd") => `(tactic| first
  | assumption | exact SH.KdV.int _ | exact SH.KdV.bl _ | exact SH.KdV.str _ | exact SH.KdV.non
  | (apply SH.KdV.tup; (· walk_at "sq")) | (apply SH.KdV.lst; (· walk_at "sq")))
/-- a way that cannot be -/
local macro_rules | `(tactic| walk_at "no") => `(tactic| (exfalso; first | assumption | omega | contradiction | (simp_all; done)))
/-- one step -/
local macro_rules | `(tactic| walk_at "g1") => `(tactic| with_reducible first
  | refine SH.g_var (by with_unfolding_all rfl) ?_ | refine SH.g_c ?_ | refine SH.g_op ?_ | refine SH.g_un ?_ | refine SH.g_I0 ?_ | refine SH.g_U ?_
  | refine SH.g_eqI ?_ | refine SH.g_neI ?_ | refine SH.g_eqS ?_ | refine SH.g_neS ?_
  | refine SH.g_test ?_ | refine SH.g_B ?_ | refine SH.g_isB ?_ | refine SH.g_and ?_ | refine SH.g_or ?_ | refine SH.g_not ?_ | refine SH.g_andV ?_ | refine SH.g_orV ?_ | refine SH.g_notV ?_ | refine SH.g_ifE ?_ | refine SH.g_chain ?_
  | refine SH.g_nil ?_ | refine SH.g_cons ?_ | refine SH.g_tup ?_ | refine SH.g_lst ?_ | refine SH.g_call ?_ | refine SH.g_fld ?_ | refine SH.g_meth ?_ | refine SH.g_make ?_ | refine SH.g_cb ?_ | refine SH.g_bm ?_
  | refine SH.g_seq ?_ | refine SH.g_asg ?_ | refine SH.g_name ?_ | refine SH.g_drop ?_ | refine SH.g_ret ?_ | refine SH.g_retN ?_ | refine SH.g_next ?_ | refine SH.g_brk ?_ | refine SH.g_cnt ?_ | refine SH.g_ifs ?_ | refine SH.g_par ?_ | refine SH.g_par2 ?_ | refine SH.g_fldS ?_ | refine SH.g_raise ?_ | refine SH.g_rs ?_
  | refine SH.g_sub ?_ | refine SH.g_yes ?_ | refine SH.g_sl ?_ | refine SH.g_noPart ?_ | refine SH.g_part ?_ | refine SH.g_intO ?_ | refine SH.g_dget ?_ | refine SH.g_dput ?_ | refine SH.g_forR ?_ | refine SH.g_forL ?_ | refine SH.g_forT ?_ | refine SH.g_lcR ?_ | refine SH.g_lcL ?_ | refine SH.g_lcT ?_ | refine SH.g_gcons ?_ | refine SH.g_gnil ?_
  | refine SH.br_t ?_ | refine SH.br_f ?_
  | refine SH.g_int ?_ | refine SH.g_abs ?_ | refine SH.g_max2 ?_ | refine SH.g_min2 ?_)
local macro_rules | `(tactic| walk_at "g2") => `(tactic| first
  | walk_at "g1"
  | ((with_reducible refine' SH.g_isiInt ?ga ?gz); (case ga => walk_at "kd"))
  | ((with_reducible refine' SH.g_isiBool ?ga ?gz); (case ga => walk_at "kd"))
  | ((with_reducible refine' SH.g_isiStr ?ga ?gz); (case ga => walk_at "kd"))
  | ((with_reducible refine' SH.g_isiTup ?ga ?gz); (case ga => walk_at "kd"))
  | ((with_reducible refine' SH.g_ixT ?ga ?gb ?gz); (case ga => walk_at "sq"); (case gb => rfl))
  | ((with_reducible refine' SH.g_ixL ?ga ?gb ?gz); (case ga => walk_at "sq"); (case gb => first | rfl | (apply SH.atI_refs; assumption)))
  | ((with_reducible refine SH.br_F ?_ ?_); (· decide +kernel)) | ((with_reducible refine SH.br_T ?_ ?_); (· decide +kernel)) | ((with_reducible refine SH.br_NF ?_ ?_); (· decide +kernel)) | ((with_reducible refine SH.br_NT ?_ ?_); (· decide +kernel))
  | ((with_reducible refine' SH.g_gtup ?ga ?gb ?gz); (case ga => walk_at "sq"); (case gb => rfl))
  | ((with_reducible refine' SH.g_lenT ?ga ?gz); (case ga => walk_at "sq"))
  | ((with_reducible refine' SH.g_lenL ?ga ?gz); (case ga => walk_at "sq"))
  | ((with_reducible refine SH.g_mkT (SH.sz rfl) ?_); intro _ _)
  | ((with_reducible refine SH.g_mkL (SH.sz rfl) ?_); intro _ _)
  | ((with_reducible refine SH.g_dnew ?_); intro _ _)
  | ((with_reducible refine' SH.g_tupL ?ga ?gz); (case ga => walk_at "sq"); intro _ _)
  | ((with_reducible refine' SH.g_lstL ?ga ?gz); (case ga => walk_at "sq"); intro _ _)
  | ((with_reducible refine' SH.g_lstT ?ga ?gz); (case ga => walk_at "sq"); intro _ _)
  | ((with_reducible refine' SH.g_dgR ?ga ?gb ?gz); (case ga => walk_at "hp"); (case gb => walk_at "dv"))
  | ((with_reducible refine' SH.g_fldR ?ga ?gb ?gc ?gd ?gz); (case ga => walk_at "hp"); (case gb => walk_at "cl"); (case gc => walk_at "na"); (case gd => walk_at "fv"))
  | ((with_reducible refine' SH.g_insR ?ga ?gb ?gz); (case ga => walk_at "hp"); (case gb => walk_at "fn"))
  | ((with_reducible refine' SH.g_setL ?ga ?gb ?gz); (case ga => walk_at "hp"); (case gb => rfl))
  | ((with_reducible refine SH.g_I ?_ ?_); (· walk_at "ci"))
  | ((with_reducible refine' SH.g_slL ?ga ?gz); (case ga => walk_at "sq"); intro _ _)
  | ((with_reducible refine' SH.g_cat ?ga ?gb ?gc ?gz); (case ga => walk_at "hp"); (case gb => walk_at "hp"); (case gc => walk_at "ls"); intro _ _))
/-- the side conditions of numbers: a divisor, a factor -/
local macro_rules | `(tactic| walk_at "ci") => `(tactic| first
  | (show _ ≠ _; omega) | (show _ < _; omega) | (constructor <;> omega) | (refine Or.inr ⟨?_, ?_⟩ <;> (show _ < _; omega)) | (refine Or.inl ⟨?_, ?_⟩ <;> (show _ < _; omega)) | (refine ⟨?_, ?_, ?_⟩ <;> decide))
local macro_rules | `(tactic| walk_at "ls") => `(tactic| first | (show _ ≤ _; exact Nat.le_trans (by assumption) (by decide)) | (show _ ≤ _; exact Nat.le_trans (by simp; omega) (by decide : 1000 ≤ sizeLine)))
local macro_rules | `(tactic| walk_at "dv") => `(tactic| rfl)
local macro_rules | `(tactic| walk_at "fv") => `(tactic| rfl)
local macro_rules | `(tactic| walk_at "fn") => `(tactic| rfl)
local macro_rules | `(tactic| walk_at "cl") => `(tactic| assumption)
local macro_rules | `(tactic| walk_at "na") => `(tactic| assumption)
local macro_rules | `(tactic| walk_at "go") => `(tactic| repeat walk_at "g2")
/-- a way is split -/
local macro_rules | `(tactic| walk_at "br") => `(tactic| with_reducible first
  | refine SH.br_d (fun _ => ?_) (fun _ => ?_) | refine SH.br_nd (fun _ => ?_) (fun _ => ?_) | refine SH.br_b (fun _ => ?_) (fun _ => ?_))
/-- all ways -/
local macro_rules | `(tactic| walk_at "all") => `(tactic| repeat' first | walk_at "g2" | (walk_at "br" <;> try (walk_at "no")))
/-- a truth value is the other -/
local macro_rules | `(tactic| walk_at "bq") => `(tactic| first | rfl | (simp_all; done) | (simp_all; omega) | (simp only [decide_eq_true_eq, decide_eq_false_iff_not, Bool.and_eq_true, Bool.or_eq_true] at *; omega))
/-- what was tracked is as it was -/
local macro_rules | `(tactic| walk_at "of") => `(tactic| first
  | assumption
  | exact SH.Off.refl _ _
  | (refine' SH.Off.new2 ?gx (by assumption); (case gx => walk_at "of"))
  | (refine' SH.Off.mut ?gx (by assumption); (case gx => walk_at "of"))
  | (refine' SH.Off.trans' ?gx (by assumption) ?gy; (case gy => (intro _ h; (first | exact h | (simp at h; done) | (simp at h ⊢; simp [h]; done)))); (case gx => walk_at "of")))
namespace SH
open PySem PySem.Spec PyProof.Rows L2
def top (i : Nat) : Stmt := PySem.Challenge.pw_surehaul_k05_whole_courses_judged.main.body.getD i (.Pass ⟨0, 0, 0, 0⟩)
abbrev s_is_integer : Stmt := top 7
theorem sc_is_integer : FnScope ["value"] ["value"] (defScope s_is_integer) := ⟨rfl, rfl, rfl, by decide +kernel, rfl, by decide +kernel, by decide +kernel⟩
abbrev s_is_in : Stmt := top 8
theorem sc_is_in : FnScope ["value", "low", "high"] ["value", "low", "high"] (defScope s_is_in) := ⟨rfl, rfl, rfl, by decide +kernel, rfl, by decide +kernel, by decide +kernel⟩
abbrev s_are_between : Stmt := top 9
theorem sc_are_between : FnScope ["value", "least", "most"] ["value", "least", "most"] (defScope s_are_between) := ⟨rfl, rfl, rfl, by decide +kernel, rfl, by decide +kernel, by decide +kernel⟩
abbrev s_demand : Stmt := top 10
theorem sc_demand : FnScope ["is_good", "name"] ["is_good", "name"] (defScope s_demand) := ⟨rfl, rfl, rfl, by decide +kernel, rfl, by decide +kernel, by decide +kernel⟩
abbrev s_Plan_init : Stmt := inClass (top 18) 0
theorem sc_Plan_init : FnScope ["self", "shares", "most", "late", "reserve", "share"] ["self", "shares", "most", "late", "reserve"] (defScope s_Plan_init) := ⟨rfl, rfl, rfl, by decide +kernel, rfl, by decide +kernel, by decide +kernel⟩
abbrev s_Plan_row : Stmt := inClass (top 18) 1
theorem sc_Plan_row : FnScope ["self"] ["self"] (defScope s_Plan_row) := ⟨rfl, rfl, rfl, by decide +kernel, rfl, by decide +kernel, by decide +kernel⟩
abbrev s_Plan_eq : Stmt := inClass (top 18) 2
theorem sc_Plan_eq : FnScope ["self", "other"] ["self", "other"] (defScope s_Plan_eq) := ⟨rfl, rfl, rfl, by decide +kernel, rfl, by decide +kernel, by decide +kernel⟩
abbrev s_is_season_step : Stmt := top 19
theorem sc_is_season_step : FnScope ["step", "boats"] ["step", "boats"] (defScope s_is_season_step) := ⟨rfl, rfl, rfl, by decide +kernel, rfl, by decide +kernel, by decide +kernel⟩
abbrev s_Boat_init : Stmt := inClass (top 20) 0
theorem sc_Boat_init : FnScope ["self", "share"] ["self", "share"] (defScope s_Boat_init) := ⟨rfl, rfl, rfl, by decide +kernel, rfl, by decide +kernel, by decide +kernel⟩
abbrev s_Boat_row : Stmt := inClass (top 20) 1
theorem sc_Boat_row : FnScope ["self", "first"] ["self"] (defScope s_Boat_row) := ⟨rfl, rfl, rfl, by decide +kernel, rfl, by decide +kernel, by decide +kernel⟩
abbrev s_Season_init : Stmt := inClass (top 21) 0
theorem sc_Season_init : FnScope ["self", "plan", "share"] ["self", "plan"] (defScope s_Season_init) := ⟨rfl, rfl, rfl, by decide +kernel, rfl, by decide +kernel, by decide +kernel⟩
abbrev s_Season_boat_of : Stmt := inClass (top 21) 1
theorem sc_Season_boat_of : FnScope ["self", "boat"] ["self", "boat"] (defScope s_Season_boat_of) := ⟨rfl, rfl, rfl, by decide +kernel, rfl, by decide +kernel, by decide +kernel⟩
abbrev s_Season_right : Stmt := inClass (top 21) 2
theorem sc_Season_right : FnScope ["self", "boat"] ["self", "boat"] (defScope s_Season_right) := ⟨rfl, rfl, rfl, by decide +kernel, rfl, by decide +kernel, by decide +kernel⟩
abbrev s_Season_landed : Stmt := inClass (top 21) 3
theorem sc_Season_landed : FnScope ["self", "boat"] ["self", "boat"] (defScope s_Season_landed) := ⟨rfl, rfl, rfl, by decide +kernel, rfl, by decide +kernel, by decide +kernel⟩
abbrev s_Season_told : Stmt := inClass (top 21) 4
theorem sc_Season_told : FnScope ["self", "boat"] ["self", "boat"] (defScope s_Season_told) := ⟨rfl, rfl, rfl, by decide +kernel, rfl, by decide +kernel, by decide +kernel⟩
abbrev s_Season_heard : Stmt := inClass (top 21) 5
theorem sc_Season_heard : FnScope ["self", "boat"] ["self", "boat"] (defScope s_Season_heard) := ⟨rfl, rfl, rfl, by decide +kernel, rfl, by decide +kernel, by decide +kernel⟩
abbrev s_Season_untold : Stmt := inClass (top 21) 6
theorem sc_Season_untold : FnScope ["self", "boat"] ["self", "boat"] (defScope s_Season_untold) := ⟨rfl, rfl, rfl, by decide +kernel, rfl, by decide +kernel, by decide +kernel⟩
abbrev s_Season_unheard : Stmt := inClass (top 21) 7
theorem sc_Season_unheard : FnScope ["self", "boat"] ["self", "boat"] (defScope s_Season_unheard) := ⟨rfl, rfl, rfl, by decide +kernel, rfl, by decide +kernel, by decide +kernel⟩
abbrev s_Season_is_broken : Stmt := inClass (top 21) 8
theorem sc_Season_is_broken : FnScope ["self"] ["self"] (defScope s_Season_is_broken) := ⟨rfl, rfl, rfl, by decide +kernel, rfl, by decide +kernel, by decide +kernel⟩
abbrev s_Season_beyond : Stmt := inClass (top 21) 9
theorem sc_Season_beyond : FnScope ["self"] ["self"] (defScope s_Season_beyond) := ⟨rfl, rfl, rfl, by decide +kernel, rfl, by decide +kernel, by decide +kernel⟩
abbrev s_Season_row : Stmt := inClass (top 21) 10
theorem sc_Season_row : FnScope ["self", "boat"] ["self"] (defScope s_Season_row) := ⟨rfl, rfl, rfl, by decide +kernel, rfl, by decide +kernel, by decide +kernel⟩
abbrev s_Season_eq : Stmt := inClass (top 21) 11
theorem sc_Season_eq : FnScope ["self", "other"] ["self", "other"] (defScope s_Season_eq) := ⟨rfl, rfl, rfl, by decide +kernel, rfl, by decide +kernel, by decide +kernel⟩
abbrev s_Season_can_do : Stmt := inClass (top 21) 13
theorem sc_Season_can_do : FnScope ["self", "step", "boat"] ["self", "step"] (defScope s_Season_can_do) := ⟨rfl, rfl, rfl, by decide +kernel, rfl, by decide +kernel, by decide +kernel⟩
abbrev s_Season_do : Stmt := inClass (top 21) 14
theorem sc_Season_do : FnScope ["self", "step", "boat"] ["self", "step"] (defScope s_Season_do) := ⟨rfl, rfl, rfl, by decide +kernel, rfl, by decide +kernel, by decide +kernel⟩
abbrev s_Season_land : Stmt := inClass (top 21) 15
theorem sc_Season_land : FnScope ["self", "boat", "amount"] ["self", "boat", "amount"] (defScope s_Season_land) := ⟨rfl, rfl, rfl, by decide +kernel, rfl, by decide +kernel, by decide +kernel⟩
abbrev s_Season_change : Stmt := inClass (top 21) 16
theorem sc_Season_change : FnScope ["self", "boat", "amount"] ["self", "boat", "amount"] (defScope s_Season_change) := ⟨rfl, rfl, rfl, by decide +kernel, rfl, by decide +kernel, by decide +kernel⟩
abbrev s_Season_is_late : Stmt := inClass (top 21) 17
theorem sc_Season_is_late : FnScope ["self", "boat", "tick", "amount"] ["self", "boat"] (defScope s_Season_is_late) := ⟨rfl, rfl, rfl, by decide +kernel, rfl, by decide +kernel, by decide +kernel⟩
abbrev s_Season_pass_tick : Stmt := inClass (top 21) 18
theorem sc_Season_pass_tick : FnScope ["self", "boat"] ["self"] (defScope s_Season_pass_tick) := ⟨rfl, rfl, rfl, by decide +kernel, rfl, by decide +kernel, by decide +kernel⟩
abbrev s_go_on : Stmt := top 22
theorem sc_go_on : FnScope ["season", "steps", "at", "step"] ["season", "steps"] (defScope s_go_on) := ⟨rfl, rfl, rfl, by decide +kernel, rfl, by decide +kernel, by decide +kernel⟩
abbrev s_are_steps : Stmt := top 23
theorem sc_are_steps : FnScope ["value"] ["value"] (defScope s_are_steps) := ⟨rfl, rfl, rfl, by decide +kernel, rfl, by decide +kernel, by decide +kernel⟩
abbrev s_play : Stmt := top 24
theorem sc_play : FnScope ["plan", "steps", "found"] ["plan", "steps"] (defScope s_play) := ⟨rfl, rfl, rfl, by decide +kernel, rfl, by decide +kernel, by decide +kernel⟩
abbrev s_led : Stmt := top 25
theorem sc_led : FnScope ["plan", "steps"] ["plan", "steps"] (defScope s_led) := ⟨rfl, rfl, rfl, by decide +kernel, rfl, by decide +kernel, by decide +kernel⟩
abbrev s_needed : Stmt := top 27
theorem sc_needed : FnScope ["plan"] ["plan"] (defScope s_needed) := ⟨rfl, rfl, rfl, by decide +kernel, rfl, by decide +kernel, by decide +kernel⟩
abbrev s_is_safe : Stmt := top 28
theorem sc_is_safe : FnScope ["plan"] ["plan"] (defScope s_is_safe) := ⟨rfl, rfl, rfl, by decide +kernel, rfl, by decide +kernel, by decide +kernel⟩
abbrev s_least_reserve : Stmt := top 29
theorem sc_least_reserve : FnScope ["plan"] ["plan"] (defScope s_least_reserve) := ⟨rfl, rfl, rfl, by decide +kernel, rfl, by decide +kernel, by decide +kernel⟩
abbrev s_landings_of : Stmt := top 30
theorem sc_landings_of : FnScope ["plan", "boat", "left", "found", "tick"] ["plan", "boat"] (defScope s_landings_of) := ⟨rfl, rfl, rfl, by decide +kernel, rfl, by decide +kernel, by decide +kernel⟩
abbrev s_course_of : Stmt := top 31
theorem sc_course_of : FnScope ["plan", "boat", "other", "steps", "landings", "tick", "amount"] ["plan"] (defScope s_course_of) := ⟨rfl, rfl, rfl, by decide +kernel, rfl, by decide +kernel, by decide +kernel⟩
abbrev s_course_against : Stmt := top 32
theorem sc_course_against : FnScope ["plan"] ["plan"] (defScope s_course_against) := ⟨rfl, rfl, rfl, by decide +kernel, rfl, by decide +kernel, by decide +kernel⟩
abbrev s_is_against : Stmt := top 33
theorem sc_is_against : FnScope ["plan", "value", "found"] ["plan", "value"] (defScope s_is_against) := ⟨rfl, rfl, rfl, by decide +kernel, rfl, by decide +kernel, by decide +kernel⟩
abbrev s_law_dice : Stmt := top 35
theorem sc_law_dice : FnScope ["script", "spot", "own", "mixed", "cell"] ["script", "spot"] (defScope s_law_dice) := ⟨rfl, rfl, rfl, by decide +kernel, rfl, by decide +kernel, by decide +kernel⟩
abbrev s_law_roll : Stmt := top 36
theorem sc_law_roll : FnScope ["dice", "total", "found"] ["dice", "total"] (defScope s_law_roll) := ⟨rfl, rfl, rfl, by decide +kernel, rfl, by decide +kernel, by decide +kernel⟩
abbrev s_law_pick : Stmt := top 37
theorem sc_law_pick : FnScope ["dice", "things"] ["dice", "things"] (defScope s_law_pick) := ⟨rfl, rfl, rfl, by decide +kernel, rfl, by decide +kernel, by decide +kernel⟩
abbrev s_law_refused : Stmt := top 38
theorem sc_law_refused : FnScope ["call", "e"] ["call"] (defScope s_law_refused) := ⟨rfl, rfl, rfl, by decide +kernel, rfl, by decide +kernel, by decide +kernel⟩
abbrev s_law_odd_values : Stmt := top 39
theorem sc_law_odd_values : FnScope ["dice", "number", "found"] ["dice"] (defScope s_law_odd_values) := ⟨rfl, rfl, rfl, by decide +kernel, rfl, by decide +kernel, by decide +kernel⟩
abbrev s_law_n_plan : Stmt := top 40
theorem sc_law_n_plan : FnScope ["dice", "shares", "most", "late", "need", "boat"] ["dice"] (defScope s_law_n_plan) := ⟨rfl, rfl, rfl, by decide +kernel, rfl, by decide +kernel, by decide +kernel⟩
abbrev s_law_n_made : Stmt := top 41
theorem sc_law_n_made : FnScope ["own"] ["own"] (defScope s_law_n_made) := ⟨rfl, rfl, rfl, by decide +kernel, rfl, by decide +kernel, by decide +kernel⟩
abbrev s_law_n_new : Stmt := top 42
theorem sc_law_n_new : FnScope ["own", "boats", "share"] ["own"] (defScope s_law_n_new) := ⟨rfl, rfl, rfl, by decide +kernel, rfl, by decide +kernel, by decide +kernel⟩
abbrev s_law_n_can : Stmt := top 43
theorem sc_law_n_can : FnScope ["season", "step", "boat"] ["season", "step"] (defScope s_law_n_can) := ⟨rfl, rfl, rfl, by decide +kernel, rfl, by decide +kernel, by decide +kernel⟩
abbrev s_law_n_do : Stmt := top 44
theorem sc_law_n_do : FnScope ["season", "step", "now", "boats", "over", "late", "boat", "who", "amount", "one", "row"] ["season", "step"] (defScope s_law_n_do) := ⟨rfl, rfl, rfl, by decide +kernel, rfl, by decide +kernel, by decide +kernel⟩
abbrev s_law_n_step : Stmt := top 45
theorem sc_law_n_step : FnScope ["dice", "season", "lot", "many", "boat", "who", "left"] ["dice", "season"] (defScope s_law_n_step) := ⟨rfl, rfl, rfl, by decide +kernel, rfl, by decide +kernel, by decide +kernel⟩
abbrev s_law_n_breach : Stmt := top 46
theorem sc_law_n_breach : FnScope ["own", "steps", "season", "step"] ["own", "steps"] (defScope s_law_n_breach) := ⟨rfl, rfl, rfl, by decide +kernel, rfl, by decide +kernel, by decide +kernel⟩
abbrev s_law_bent : Stmt := top 47
theorem sc_law_bent : FnScope ["dice", "own", "steps", "way", "found", "at", "season"] ["dice", "own", "steps"] (defScope s_law_bent) := ⟨rfl, rfl, rfl, by decide +kernel, rfl, by decide +kernel, by decide +kernel⟩
abbrev s_law_right : Stmt := top 48
theorem sc_law_right : FnScope ["dice", "own", "plan", "steps", "turn", "near", "due", "odd", "told", "bad"] ["dice"] (defScope s_law_right) := ⟨rfl, rfl, rfl, by decide +kernel, rfl, by decide +kernel, by decide +kernel⟩
abbrev s_law : Stmt := top 49
theorem sc_law : FnScope ["script", "spot"] ["script"] (defScope s_law) := ⟨rfl, rfl, rfl, by decide +kernel, rfl, by decide +kernel, by decide +kernel⟩
/-- what the top has written -/
structure Txt (P : Program) (w : World) (K : PySem.W.Frag) (mg : Str → Option Value) : Prop where
  blt : Blt mg
  c_MOST_BOATS : Ci mg "MOST_BOATS" 5
  c_MOST_SHARE : Ci mg "MOST_SHARE" 500
  c_MOST_LANDING : Ci mg "MOST_LANDING" 20
  c_MOST_LATE : Ci mg "MOST_LATE" 6
  c_MOST_NOW : Ci mg "MOST_NOW" 1000
  c_MOST_STEPS : Ci mg "MOST_STEPS" 5000
  d_is_integer : TopD K mg "is_integer" s_is_integer
  d_is_in : TopD K mg "is_in" s_is_in
  d_are_between : TopD K mg "are_between" s_are_between
  d_demand : TopD K mg "demand" s_demand
  i_Plan : TopI K mg "Plan" (He.ga K "Plan") "Plan.__init__" s_Plan_init
  m_Plan_row : TopM K (He.ga K "Plan") "row" "Plan.row" s_Plan_row
  m_Plan_eq : TopM K (He.ga K "Plan") "__eq__" "Plan.__eq__" s_Plan_eq
  d_is_season_step : TopD K mg "is_season_step" s_is_season_step
  i_Boat : TopI K mg "Boat" (He.ga K "Boat") "Boat.__init__" s_Boat_init
  m_Boat_row : TopM K (He.ga K "Boat") "row" "Boat.row" s_Boat_row
  i_Season : TopI K mg "Season" (He.ga K "Season") "Season.__init__" s_Season_init
  m_Season_boat_of : TopM K (He.ga K "Season") "boat_of" "Season.boat_of" s_Season_boat_of
  m_Season_right : TopM K (He.ga K "Season") "right" "Season.right" s_Season_right
  m_Season_landed : TopM K (He.ga K "Season") "landed" "Season.landed" s_Season_landed
  m_Season_told : TopM K (He.ga K "Season") "told" "Season.told" s_Season_told
  m_Season_heard : TopM K (He.ga K "Season") "heard" "Season.heard" s_Season_heard
  m_Season_untold : TopM K (He.ga K "Season") "untold" "Season.untold" s_Season_untold
  m_Season_unheard : TopM K (He.ga K "Season") "unheard" "Season.unheard" s_Season_unheard
  m_Season_is_broken : TopM K (He.ga K "Season") "is_broken" "Season.is_broken" s_Season_is_broken
  m_Season_beyond : TopM K (He.ga K "Season") "beyond" "Season.beyond" s_Season_beyond
  m_Season_row : TopM K (He.ga K "Season") "row" "Season.row" s_Season_row
  m_Season_eq : TopM K (He.ga K "Season") "__eq__" "Season.__eq__" s_Season_eq
  m_Season_can_do : TopM K (He.ga K "Season") "can_do" "Season.can_do" s_Season_can_do
  m_Season_do : TopM K (He.ga K "Season") "do" "Season.do" s_Season_do
  m_Season_land : TopM K (He.ga K "Season") "land" "Season.land" s_Season_land
  m_Season_change : TopM K (He.ga K "Season") "change" "Season.change" s_Season_change
  m_Season_is_late : TopM K (He.ga K "Season") "is_late" "Season.is_late" s_Season_is_late
  m_Season_pass_tick : TopM K (He.ga K "Season") "pass_tick" "Season.pass_tick" s_Season_pass_tick
  d_go_on : TopD K mg "go_on" s_go_on
  d_are_steps : TopD K mg "are_steps" s_are_steps
  d_play : TopD K mg "play" s_play
  d_led : TopD K mg "led" s_led
  d_needed : TopD K mg "needed" s_needed
  d_is_safe : TopD K mg "is_safe" s_is_safe
  d_least_reserve : TopD K mg "least_reserve" s_least_reserve
  d_landings_of : TopD K mg "landings_of" s_landings_of
  d_course_of : TopD K mg "course_of" s_course_of
  d_course_against : TopD K mg "course_against" s_course_against
  d_is_against : TopD K mg "is_against" s_is_against
  d_law_dice : TopD K mg "_law_dice" s_law_dice
  d_law_roll : TopD K mg "_law_roll" s_law_roll
  d_law_pick : TopD K mg "_law_pick" s_law_pick
  d_law_refused : TopD K mg "_law_refused" s_law_refused
  d_law_odd_values : TopD K mg "_law_odd_values" s_law_odd_values
  d_law_n_plan : TopD K mg "_law_n_plan" s_law_n_plan
  d_law_n_made : TopD K mg "_law_n_made" s_law_n_made
  d_law_n_new : TopD K mg "_law_n_new" s_law_n_new
  d_law_n_can : TopD K mg "_law_n_can" s_law_n_can
  d_law_n_do : TopD K mg "_law_n_do" s_law_n_do
  d_law_n_step : TopD K mg "_law_n_step" s_law_n_step
  d_law_n_breach : TopD K mg "_law_n_breach" s_law_n_breach
  d_law_bent : TopD K mg "_law_bent" s_law_bent
  d_law_right : TopD K mg "_law_right" s_law_right
  d_law : TopD K mg "law" s_law
  cl_Plan : Cls K (He.ga K "Plan")
  is_Plan : IsOwn K (He.ga K "Plan")
  kn_Plan : KNot K (He.ga K "Plan")
  ne_Plan : NeOk K (He.ga K "Plan")
  g_Plan : mg "Plan" = some (.ref (He.ga K "Plan"))
  na_Plan_shares : NoAttr K (He.ga K "Plan") "shares"
  na_Plan_most : NoAttr K (He.ga K "Plan") "most"
  na_Plan_late : NoAttr K (He.ga K "Plan") "late"
  na_Plan_reserve : NoAttr K (He.ga K "Plan") "reserve"
  cl_Boat : Cls K (He.ga K "Boat")
  is_Boat : IsOwn K (He.ga K "Boat")
  kn_Boat : KNot K (He.ga K "Boat")
  g_Boat : mg "Boat" = some (.ref (He.ga K "Boat"))
  na_Boat_right : NoAttr K (He.ga K "Boat") "right"
  na_Boat_heard : NoAttr K (He.ga K "Boat") "heard"
  na_Boat_landed : NoAttr K (He.ga K "Boat") "landed"
  na_Boat_told : NoAttr K (He.ga K "Boat") "told"
  na_Boat_untold : NoAttr K (He.ga K "Boat") "untold"
  na_Boat_unheard : NoAttr K (He.ga K "Boat") "unheard"
  na_Boat_present : NoAttr K (He.ga K "Boat") "present"
  cl_Season : Cls K (He.ga K "Season")
  is_Season : IsOwn K (He.ga K "Season")
  kn_Season : KNot K (He.ga K "Season")
  ne_Season : NeOk K (He.ga K "Season")
  g_Season : mg "Season" = some (.ref (He.ga K "Season"))
  na_Season_plan : NoAttr K (He.ga K "Season") "plan"
  na_Season_now : NoAttr K (He.ga K "Season") "now"
  na_Season__boats : NoAttr K (He.ga K "Season") "_boats"
  na_Season__is_broken : NoAttr K (He.ga K "Season") "_is_broken"
  na_Season__beyond : NoAttr K (He.ga K "Season") "_beyond"
  g_HaulError : mg "HaulError" = some (.ref (He.ga K "HaulError"))
  g_BadArgument : mg "BadArgument" = some (.ref (He.ga K "BadArgument"))
  x_BadArgument : XsOk P w K mg "BadArgument" "name" (He.ga K "BadArgument")
  xc_BadArgument : XcOk K (He.ga K "BadArgument") "name"
  xr_BadArgument_HaulError : XrOk K (He.ga K "BadArgument") (He.ga K "HaulError") true
  xr_BadArgument_BadArgument : XrOk K (He.ga K "BadArgument") (He.ga K "BadArgument") true
  xr_BadArgument_NotPossible : XrOk K (He.ga K "BadArgument") (He.ga K "NotPossible") false
  xr_BadArgument_Stopped : XrOk K (He.ga K "BadArgument") (He.ga K "Stopped") false
  g_NotPossible : mg "NotPossible" = some (.ref (He.ga K "NotPossible"))
  x_NotPossible : XsOk P w K mg "NotPossible" "word" (He.ga K "NotPossible")
  xc_NotPossible : XcOk K (He.ga K "NotPossible") "word"
  xr_NotPossible_HaulError : XrOk K (He.ga K "NotPossible") (He.ga K "HaulError") true
  xr_NotPossible_BadArgument : XrOk K (He.ga K "NotPossible") (He.ga K "BadArgument") false
  xr_NotPossible_NotPossible : XrOk K (He.ga K "NotPossible") (He.ga K "NotPossible") true
  xr_NotPossible_Stopped : XrOk K (He.ga K "NotPossible") (He.ga K "Stopped") false
  g_Stopped : mg "Stopped" = some (.ref (He.ga K "Stopped"))
  x_Stopped : XsOk P w K mg "Stopped" "place" (He.ga K "Stopped")
  xc_Stopped : XcOk K (He.ga K "Stopped") "place"
  xr_Stopped_HaulError : XrOk K (He.ga K "Stopped") (He.ga K "HaulError") true
  xr_Stopped_BadArgument : XrOk K (He.ga K "Stopped") (He.ga K "BadArgument") false
  xr_Stopped_NotPossible : XrOk K (He.ga K "Stopped") (He.ga K "NotPossible") false
  xr_Stopped_Stopped : XrOk K (He.ga K "Stopped") (He.ga K "Stopped") true
end SH
end

section
namespace SH
open PySem PySem.Spec PyProof.Rows L2
/-! #### try .. except .. whose suites raise an own error «from None» -/
section
variable {X : Cx} {C : Addr} {x f : Str}
theorem pmk_xs5 {a : Expr} {ta : TA} {p pos : Pos} (T : XsOk X.prog X.w X.K X.mg x f C) (hdp : X.A.depth + 1 < recursionLimit) (ha : PA X [a] ta) (hg : Gl X x := by rfl) (hdb : (x == ("__debug__" : Str)) = false := by decide)
    (he : starEach (a :: []) X.env = (false, eval a X.env) :: starEach [] X.env := by rfl) (hpl : (backTo pos (starEach [] X.env)).any (·.1) = false := by rfl) :
    L2H.PMk5 X (.Call (.Name x p) [a] [] pos) (tXs C f ta) := by
  intro pins s σ H Q I h
  refine wpAny_Call_Name_kw (ld_glob I hg T.gC ?_ hdb)
  refine PySem.W.callWith_K (h₀ := X.base) I.ok.mod.kin T.kC (thn (ha.run pos pins s σ H _ I h) fun us s1 hh => ?_) he hpl
  obtain ⟨vs, H1, I1, r1, v, ev, q1⟩ := hh
  subst ev
  refine ⟨I1.kIn, ?_⟩
  cases r1 with
  | cons rv rn =>
    rename_i v' us'
    cases rn
    show wpAny _ _ (call (.ref C) [v']) _ _ _
    have hlim := I1.nolimit
    obtain ⟨mb, b1, b2⟩ := I1.mod.blt
    have hGl := I1.mod.glob.keeps I1.bk
    have hBl := b1.keeps I1.bk
    have hsu : mb "super" = some (.type "super") := (b2 "super" (by decide)).trans (by decide +kernel)
    obtain ⟨hp, g, dr, tk, os⟩ := s1
    refine wpAny_call (T.made X.A _ _ mb v' I1.kIn hGl hBl hsu hlim hdp fun h' tk' e d M => ?_)
    show L2N.MkP X pins σ Q (.ref e) ⟨h', g, dr, tk', os⟩ ∧ L2H.Six (.ref e) ⟨h', g, dr, tk', os⟩
    refine ⟨?_, fun a2 oe2 vs2 ea hg2 hd2 => ?six⟩
    case six =>
      cases ea
      obtain ⟨oe, fv, hoe, hc, hd, hdat, h1, h2, h5⟩ := M.obj
      have z : h'.get? e = some oe2 := hg2
      rw [hoe] at z
      cases z
      rw [hdat] at hd2
      cases hd2
      exact h5
    obtain ⟨oe, fv, hoe, hc, hd, hdat, h1, h2, h5⟩ := M.obj
    have hns := M.ns
    obtain ⟨G', g1, g2⟩ := restrict h' fun b => decide (b ≠ e)
    have gk : ∀ b, b ≠ e → G'.get? b = h'.get? b := fun b hb => g1 b (decide_eq_true hb)
    have ge : G'.get? e = none := g2 e (by simp)
    have old : ∀ b o, hp.get? b = some o → G'.get? b = some o := fun b o q => (gk b (Nat.ne_of_lt (Nat.lt_of_lt_of_le (Heap.lt_size q) M.new))).trans (M.keep b o q)
    have ob : ObjOk X.prog X.w (upd H1 d (.xd [(f, v)])) G' d (.xd [(f, v)]) :=
      ⟨_, hns.at (fun o q => (gk d M.dne).trans q), fun g => relO_one rv g⟩
    have J : Inv X pins σ (upd H1 d (.xd [(f, v)])) ⟨G', g, dr, tk', os⟩ := I1.laid (t' := tk') old M.dbig ob
    refine ⟨e, oe, fv, ⟨G', g, dr, tk', os⟩, _, .ref C, some d, rfl, J, fun b o q => ?_, ge, hoe, ⟨hc, hd, fun vs e => by rw [hdat] at e; cases e; exact h2⟩, hdat, h1, ?_, rfl, I1.bare, raises_own T.exC T.tyC, q1 d (I1.hok.fresh M.dbig)⟩
    · by_cases hb : b = e
      · have q' : G'.get? b = some o := q
        rw [hb, ge] at q'; cases q'
      · exact (gk b hb).symm.trans q
    · rw [upd_ne (Ne.symm M.dne)]
      exact I1.hok.fresh M.new
def tRaiseXs5 (C : Addr) (f : Str) (W : WX) (ta : TA) : TS := fun _ σ H => tXs C f ta σ H fun cls d H' => W cls d σ H'
/-- raise x(e) from None, in an except suite -/
theorem ps_raiseHX {a : Expr} {ta : TA} {W : WX} {p pos pos2 cpos : Pos} {j : Nat} (hot : L2H.HotC X) (T : XsOk X.prog X.w X.K X.mg x f C) (hdp : X.A.depth + 1 < recursionLimit) (tk : L2.Takes X W) (ha : PA X [a] ta) (hg : Gl X x := by rfl) (hdb : (x == ("__debug__" : Str)) = false := by decide)
    (he : starEach (a :: []) X.env = (false, eval a X.env) :: starEach [] X.env := by rfl) (hpl : (backTo pos (starEach [] X.env)).any (·.1) = false := by rfl) :
    PS X (.Raise (some (.Call (.Name x p) [a] [] pos)) (some (.Constant .none j cpos)) pos2) (tRaiseXs5 C f W ta) := L2H.ps_raiseHN hot tk (pmk_xs5 T hdp ha hg hdb he hpl)
end
/-- the clauses, their suites may raise; each exception of the body is named by one -/
inductive HdsX (X : Cx) (Wout : WX) : List ExceptHandler → List (Value × (Addr → Value → Option Addr → TS)) → Prop
  | nil : HdsX X Wout [] []
  | cons {x : Str} {c : Value} {ts : Addr → Value → Option Addr → TS} {b₀ : Stmt} {suite : List Stmt} {np pos' : Pos} {hds : List ExceptHandler} {l : List (Value × (Addr → Value → Option Addr → TS))} (hc : Names X x c)
      (hsu : ∀ (a : Addr) (oe : Obj) (cls : Value) (d : Option Addr) (pn : List (Addr × Obj)), L2N.Zn cls d oe → (∃ vs, oe.data = .fields vs) → L2.Takes (L2H.suiteX X a ((a, oe) :: pn)) Wout → L2H.HotC (L2H.suiteX X a ((a, oe) :: pn)) →
        PSs (L2H.suiteX X a ((a, oe) :: pn)) (b₀ :: suite) (ts a cls d)) (r : HdsX X Wout hds l) : HdsX X Wout (.ExceptHandler (some (.Name x np)) none (b₀ :: suite) pos' :: hds) ((c, ts) :: l)
def tTryX (K : PySem.W.Frag) (tb : WX → TS) (l : List (Value × (Addr → Value → Option Addr → TS))) : TS := fun D σ H => tb (wMany K (fun _ _ _ _ => False) D l) D σ H
theorem ps_tryX {X : Cx} {K : PySem.W.Frag} {body : List Stmt} {h₀ : ExceptHandler} {hds : List ExceptHandler} {l : List (Value × (Addr → Value → Option Addr → TS))} {pos : Pos} {tb : WX → TS} {Wout : WX} (hK : X.K = K) (hs : X.stack = X.env :: X.outer) (hf : X.env.frame = some X.env.locals)
    (hpa : ∀ hd : Option Value, PassesOwnAt (model X.prog X.w) (X.A.mark hd) X.A X.env X.xe) (tk : L2.Takes X Wout)
    (hb : ∀ (W : WX) (pn : List (Addr × Obj)) (xe : Value → Shared → Prop), L2N.Takes (X.tr pn xe) W → PassesOwn (model X.prog X.w) X.A X.env xe → PSs (X.tr pn xe) body (tb W))
    (hh : HdsX X Wout (h₀ :: hds) l) : PS X (.Try body (h₀ :: hds) [] [] pos) (tTryX K tb l) := by
  subst hK
  constructor
  intro pins s σ H D I h
  have ok := I.ok
  have frs0 : X.A.frames = some (X.env :: X.outer) := by rw [ok.frames, hs]
  apply wpAny_Try_except
  have bodyRun := (hb (wMany X.K (fun _ _ _ _ => False) D l) (X.pn ++ pins) (fun e s₁ => wpAny (model X.prog X.w) X.A (noteFrame e X.env) (fun _ s₂ => wpAny (model X.prog X.w) X.A (setFlight e none) (fun _ s₃ => wpAny (model X.prog X.w) X.A (handleBy e X.env (h₀ :: hds)) (SP X pins D) X.xe s₃) X.xe s₂) X.xe s₁)
    ?cc PassesOwn.looking).run [] s σ H D (I.toTry _) h
  case cc =>
    rintro u s' ⟨a, B, sI, pins', σ', H', cls, d, rfl, J', nb, up, sky, na, os, ag, w⟩
    have J : Inv X pins σ' H' sI := J'.ofTry ok
    rw [show (X.tr (X.pn ++ pins) _).stack = X.stack from rfl, hs] at sky
    refine L2N.Sky.land L2N.Zn.steady frs0 hf sky ?_
    intro h3 fl3 up3
    have J3 : Inv X pins σ' H' { s' with heap := h3 } := J.landed nb fl3.1 (up.trans up3) os ag
    obtain ⟨oe3, vs3, he3, hz3, hd3⟩ := fl3.there
    have nfr : a ∉ frs (X.env :: X.outer) := by
      intro hm
      obtain ⟨_, o', e', hnf⟩ := fl3.2.2.1.mem hm
      cases he3.symm.trans e'
      exact hnf _ hd3
    have nL : a ≠ X.env.locals := by
      rintro rfl
      exact nfr (List.mem_filterMap.mpr ⟨X.env, List.mem_cons_self, hf⟩)
    have nF : a ∉ X.fs := by
      intro hm
      obtain ⟨e, he, q⟩ := List.mem_filterMap.mp hm
      exact nfr (List.mem_filterMap.mpr ⟨e, List.mem_cons_of_mem _ he, q⟩)
    have S3 := J3.suite he3 hd3 na nL nF
    suffices go : ∀ (hds' : List ExceptHandler) (l' : List (Value × (Addr → Value → Option Addr → TS))), HdsX X Wout hds' l' → wMany X.K (fun _ _ _ _ => False) D l' cls d σ' H' →
        wpAny (model X.prog X.w) X.A (handleBy (.ref a) X.env hds') (SP X pins D) X.xe { s' with heap := h3 } from go _ _ hh w
    intro hds' l' hk
    induction hk with
    | nil => exact fun w => w.elim
    | @cons x c ts b₀ suite np pos' hds2 l2 hc hsu r ih =>
      rintro ⟨b, hb1, hyes, hno⟩
      refine wpAny_handleBy_cons (codeAny_handlers_test ?_) (by intro q; cases q)
      have looks : PySem.W.Looks (model X.prog X.w) h3 (typeOf (.ref a)) cls := fun A Q E s k q => wpAny_typeOf_ref (k _ _ he3) (by rw [hz3.1]; exact q)
      have LM := PySem.W.exm_one (M := model X.prog X.w) (J3.kIn) looks hb1
      have test : ∀ {Q E : Value → Shared → Prop}, Q c { s' with heap := h3 } → wpAny (model X.prog X.w) (X.A.mark (some (.ref a))) (eval (.Name x np) X.env) Q E { s' with heap := h3 } := by
        intro Q E q
        obtain ⟨hg, hdbg, hm | ⟨hm, hv, hnn⟩⟩ := hc
        · exact ld_glob (X := X.suite a ((a, oe3) :: (X.pn ++ pins))) S3 hg hm q hdbg
        · exact ld_blt (X := X.suite a ((a, oe3) :: (X.pn ++ pins))) S3 hg hm hv q hnn hdbg
      refine test (LM.here ?_)
      rcases b with _ | _
      · show wpAny _ X.A (handleBy (.ref a) X.env hds2) _ _ _
        exact ih (hno rfl)
      · refine codeAny_handlers_suite (HandSPX.lands_againZ fl3 ?_)
        intro h4 fl4 up4
        have J4 : Inv X pins σ' H' { s' with heap := h4 } := J.landed nb fl4.1 ((up.trans up3).trans up4) os ag
        obtain ⟨oe4, vs4, he4, hz4, hd4⟩ := fl4.there
        have S4 := J4.suite he4 hd4 na nL nF
        have tkS : L2.Takes (L2H.suiteX X a ((a, oe4) :: (X.pn ++ pins))) Wout := by
          rintro u2 s2 ⟨a2, B2, sI2, pn2, σ2, H2, cls2, d2, e2, I2, nb2, up2, sky2, na2, os2, ag2, w2⟩
          exact tk u2 s2 ⟨a2, B2, sI2, pins, σ2, H2, cls2, d2, e2, L2H.unsuiteX I2 ok, nb2, up2, sky2, na2, os2, ag2, w2⟩
        have hot : L2H.HotC (L2H.suiteX X a ((a, oe4) :: (X.pn ++ pins))) := ⟨(a, oe4), ⟨rfl, vs4, hd4, hz4.2.2 vs4 hd4⟩, List.mem_cons_self⟩
        refine wpAny_mono ((hsu a oe4 cls d (X.pn ++ pins) hz4 ⟨_, hd4⟩ tkS hot).run [] _ _ H' _ (L2H.suiteX_of S4) (hyes rfl a na)) ?_ (fun e6 s6 z => hpa (some (.ref a)) e6 s6 z)
        intro fl s6 z
        match fl, z with
        | .next, ⟨σ6, H6, S6, q6⟩ => exact ⟨_, _, L2H.unsuiteX S6 ok, q6⟩
        | .brk, ⟨σ6, H6, S6, q6⟩ => exact ⟨_, _, L2H.unsuiteX S6 ok, q6⟩
        | .cont, ⟨σ6, H6, S6, q6⟩ => exact ⟨_, _, L2H.unsuiteX S6 ok, q6⟩
        | .ret u, ⟨v6, σ6, H6, S6, r6, q6⟩ => exact ⟨_, _, _, L2H.unsuiteX S6 ok, r6, q6⟩
  refine wpAny_mono bodyRun ?_ (fun _ _ z => z)
  intro fl s1 z
  match fl, z with
  | .next, ⟨σ', H', J', q⟩ => exact wpAny_execs_nil ⟨σ', H', J'.ofTry ok, q⟩
  | .brk, ⟨σ', H', J', q⟩ => exact ⟨σ', H', J'.ofTry ok, q⟩
  | .cont, ⟨σ', H', J', q⟩ => exact ⟨σ', H', J'.ofTry ok, q⟩
  | .ret u, ⟨v, σ', H', J', r, q⟩ => exact ⟨v, σ', H', J'.ofTry ok, r, q⟩
/-! #### defs whose errors may bear a context -/
theorem sky_down {B : Heap} {l : List Env} {a L : Addr} {cls : Value} {d : Option Addr} {h : Heap} (x : Sky B l a (L2N.Zn cls d) L h) : Sky B l a (Zc cls d) L h := by
  have tr : ∀ {fl : Value}, HandSPX.TracedZ h B a (L2N.Zn cls d) fl → HandSPX.TracedZ h B a (Zc cls d) fl := fun t => L2H.tracedZ_imp (fun _ z => z.zc) t
  rcases x with ⟨h1, h2, h3, oe, vs, h4, h5, h6, h7⟩ | ⟨h1, h2, h3, h4⟩ | ⟨h1, h2, h3, h4⟩
  · exact .inl ⟨h1, h2, h3, oe, vs, h4, h5.zc, h6, h7⟩
  · exact .inr (.inl ⟨h1, h2, h3, tr h4⟩)
  · exact .inr (.inr ⟨h1, h2, h3, tr h4⟩)
theorem takes_down {X : Cx} {W : WX} (tk : L2.Takes X W) : L2N.Takes X W := by
  rintro u s' ⟨a, B, sI, pins, σ, H, cls, d, e, I, nb, up, sky, na, os, ag, w⟩
  exact tk u s' ⟨a, B, sI, pins, σ, H, cls, d, e, I, nb, up, sky_down sky, na, os, ag, w⟩
theorem takes00 {X : Cx} : L2.Takes X (fun _ _ _ _ => False) := by
  rintro u s' ⟨_, _, _, _, _, _, _, _, _, _, _, _, _, _, _, _, q⟩
  exact q.elim
theorem room_dp {k : Nat} {A : Around} (r : Room k A) : A.depth + 1 < recursionLimit := by have := r.dp; omega
def DefC (P : Program) (w : World) (K : PySem.W.Frag) (mg : Str → Option Value) (base : Heap) (x : Str) (k : Nat) (ps : List Str) (sp : Sp) : Prop :=
  ∃ f fd, FnOk P w K mg base (L2.CX P w) k f fd ps sp ∧ mg x = some (.ref f) ∧ PySem.W.keepIn K (.ref f) = true ∧ Binds K fd ps []
section
variable {P : Program} {w : World} {K : PySem.W.Frag} {mg : Str → Option Value} {base : Heap} {x : Str} {st : Stmt} {N ps : List Str} {k : Nat} {sp : Sp}
theorem TopD.okC (T : TopD K mg x st) (S : FnScope N ps (defScope st))
    (hb : ∀ (kV doc pm : Value) (an : Option Addr) (cdv ct : Value) (us : List Value), us.length = ps.length → bindArgs (PySem.W.fnOf x x (defArgs st) (defBody st) (defScope st) .none kV doc pm an cdv ct) ⟨us, []⟩ = pure (ps.zip us))
    (len : ∀ vs H Q E, sp vs H Q E → vs.length = ps.length)
    (hbody : ∀ (f : Addr) (cdv : Value) (A : Around) (outer : List Env) (s : Shared) (H : Hp) (vs : List V) (Q : VK) (E : XK), Room k (A.deeper (envOfC x (defScope st) s.heap.objs.size f cdv)) → sp vs H Q E →
      ∃ t, PSs (cxOf (L2.CX P w) P w K mg base N x (defScope st) f cdv A outer s H E) (defBody st) t ∧ t { nx := fun _ H' => Q .non H', rt := Q } (start N vs) H) : DefC P w K mg base x (k + 1) ps sp := by
  obtain ⟨f, fd, F, hm⟩ := T
  exact ⟨f, fd, F.ok S len fun cdv A outer s H vs Q E hr h => hbody f cdv A outer s H vs Q E hr h, hm, F.kp, F.bindsN hb⟩
end
section
variable {X : Cx} {x : Str} {k : Nat} {ps : List Str} {sp : Sp} {E : XK} {W : WX} {p pos : Pos} {e : Expr} {es : List Expr} {t : TA}
theorem pe_dfC (D : DefC X.prog X.w X.K X.mg X.base x k ps sp) (hr : Room k X.A) (hx : Passes (L2.CX X.prog X.w) X E) (ha : PA X (e :: es) t) (hg : Gl X x := by rfl) (hdb : (x == ("__debug__" : Str)) = false := by decide)
    (hs : starEach (e :: es) X.env = (false, eval e X.env) :: starEach es X.env := by rfl) (hp : (backTo pos (starEach es X.env)).any (·.1) = false := by rfl) : PE X (.Call (.Name x p) (e :: es) [] pos) (tCall sp [] E t) := by
  obtain ⟨f, fd, F, hm, hk, hb⟩ := D
  exact pe_call F hr hg hm hk hb .nil hx ha hdb hs hp
theorem pe_dfCS (D : DefC X.prog X.w X.K X.mg X.base x k ps sp) (hr : Room k X.A) (tk : L2.Takes X W) (ha : PA X (e :: es) t) (hg : Gl X x := by rfl) (hdb : (x == ("__debug__" : Str)) = false := by decide)
    (hs : starEach (e :: es) X.env = (false, eval e X.env) :: starEach es X.env := by rfl) (hp : (backTo pos (starEach es X.env)).any (·.1) = false := by rfl) : PE X (.Call (.Name x p) (e :: es) [] pos) (tCallS sp (WE W) t) := by
  obtain ⟨f, fd, F, hm, hk, hb⟩ := D
  exact pe_callS F hr hg hm hk hb (fun σ => L2.passAt tk σ) ha hdb hs hp
end
def tTryOnlyC (K : PySem.W.Frag) (c : Value) (tb : WX → TS) (ts : Addr → Value → Option Addr → TS) (Wout : WX) : TS := fun D σ H => tb (wOnly K c ts Wout D) D σ H
theorem ps_tryOnlyC {X : Cx} {K : PySem.W.Frag} {x : Str} {c : Value} {body suite : List Stmt} {b₀ : Stmt} {np pos pos' : Pos} {tb : WX → TS} {ts : Addr → Value → Option Addr → TS} {Wout : WX} (hK : X.K = K) (hs : X.stack = X.env :: X.outer) (hf : X.env.frame = some X.env.locals) (hc : Names X x c) (tk : L2.Takes X Wout)
    (hb : ∀ (W : WX) (pn : List (Addr × Obj)) (xe : Value → Shared → Prop), L2.Takes (X.tr pn xe) W → PassesOwn (model X.prog X.w) X.A X.env xe → PSs (X.tr pn xe) body (tb W))
    (hsu : ∀ (a : Addr) (oe : Obj) (cls : Value) (d : Option Addr) (pn : List (Addr × Obj)), Zc cls d oe → (∃ vs, oe.data = .fields vs) → PSs (X.suite a ((a, oe) :: pn)) (b₀ :: suite) (ts a cls d)) :
    PS X (.Try body [.ExceptHandler (some (.Name x np)) none (b₀ :: suite) pos'] [] [] pos) (tTryOnlyC K c tb ts Wout) := by
  subst hK
  exact ps_try_only hs hf hc tk hb hsu
section
variable {K : PySem.W.Frag} {σ : L2.St} {H : Hp} {C : Addr} {f : Str} {W Wout : WX} {ta : TA} {v : V} {N : L2.St → Hp → Prop} {R : VK} {Bk Ct : L2.St → Hp → Prop} {c : Value} {tb : WX → TS} {ts : Addr → Value → Option Addr → TS} {D : Ends} {d : Option Addr} {l : List (Value × (Addr → Value → Option Addr → TS))}
theorem g_tryX (q : tb (wMany K (fun _ _ _ _ => False) ⟨N, R, Bk, Ct⟩ l) ⟨N, R, Bk, Ct⟩ σ H) : tTryX K tb l ⟨N, R, Bk, Ct⟩ σ H := q
theorem g_tryOC (q : tb (wOnly K c ts Wout ⟨N, R, Bk, Ct⟩) ⟨N, R, Bk, Ct⟩ σ H) : tTryOnlyC K c tb ts Wout ⟨N, R, Bk, Ct⟩ σ H := q
theorem g_many1 (e : PySem.W.exmOne K (.ref C) c = some true) (q : ∀ a, H a = none → ts a (.ref C) d D σ H) : WE (wMany K Wout D ((c, ts) :: l)) σ (.ref C) d H := ⟨true, e, fun _ => q, fun z => Bool.noConfusion z⟩
theorem g_many2 (e : PySem.W.exmOne K (.ref C) c = some false) (q : WE (wMany K Wout D l) σ (.ref C) d H) : WE (wMany K Wout D ((c, ts) :: l)) σ (.ref C) d H := ⟨false, e, fun z => Bool.noConfusion z, fun _ => q⟩
theorem g_only1 (e : PySem.W.exmOne K (.ref C) c = some true) (q : ∀ a, H a = none → ts a (.ref C) d D σ H) : WE (wOnly K c ts Wout D) σ (.ref C) d H := ⟨true, e, fun _ => q, fun z => Bool.noConfusion z⟩
theorem g_raise5 (q : ta σ H fun vs H1 => ∃ v, vs = [v] ∧ ∀ d, H1 d = none → W (.ref C) (some d) σ (upd H1 d (.xd [(f, v)]))) : tRaiseXs5 C f W ta ⟨N, R, Bk, Ct⟩ σ H := q
end
end SH
end

section
namespace SH
open PySem PySem.Spec PyProof.Rows L2 LamX
/-! ### a lambda without parameters handed to a def: what it changes is the maker's table of code objects alone -/
section
variable {S : List Addr} {H H' : Hp} {P c : Addr} {ps ps' : Array Value} {q : Str}
theorem tblNe {b : Addr} {o : HO} (hP : H P = some (.tbl ps)) (h : H b = some o) (n : ∀ ps, o ≠ .tbl ps) : b ≠ P := fun z => by
  rw [z, hP] at h
  exact n ps (Option.some.inj h).symm
theorem offTab (hP : H P = some (.tbl ps)) (hc : H c = none) : Off [P] H (upd (upd H P (.tbl ps')) c (CodeO c q)) := by
  have at_ : ∀ b o, b ≠ P → H b = some o → upd (upd H P (.tbl ps')) c (CodeO c q) b = some o := fun b o n e => by rw [upd_ne (ne_of_none e hc), upd_ne n]; exact e
  exact ⟨fun a o n e => at_ a o (by simpa using n) e, fun a xs e => at_ a _ (tblNe hP e (fun _ z => by cases z)) e, fun a o u e => at_ a _ (tblNe hP e (fun _ z => by cases z)) e, fun a o e => by
    by_cases z : a = P
    · exact ⟨_, by rw [upd_ne (ne_of_none e hc), z, upd_same]⟩
    · exact ⟨o, at_ a o z e⟩⟩
/-- a place that holds no code object's fact -/
def NoExt (H : Hp) (S : List Addr) : Prop := ∀ a ∈ S, ∀ φ, H a ≠ some (.ext φ)
theorem NoExt.nil : NoExt H [] := fun a h => by cases h
theorem TabS.off (h : TabS H P q) (o : Off S H H') (n : P ∉ S) (ne : NoExt H S) : TabS H' P q := by
  obtain ⟨ps, h1, h2, h3⟩ := h
  refine ⟨ps, o.at n h1, h2, fun pos cv hc => ?_⟩
  obtain ⟨c, e1, e2⟩ := h3 pos cv hc
  exact ⟨c, e1, o.at (fun z => ne c z _ e2) e2⟩
end
section
variable {X : Cx} {pins : List (Addr × Obj)} {σ : L2.St} {H : Hp} {s : Shared}
theorem lam_make3 {c P : Addr} {q : Str} {params : Arguments} {body : Expr} {scope : Scope} {pos : Pos} {E : Value → Shared → Prop} {Q : Value → Shared → Prop} (hq : q = X.env.qual ++ "<lambda>") (I : Inv X pins σ H s) (TB : TabB X.base X.mg c P) (hcode : X.env.code = .ref c)
    (hT : TabS H P q) (hdef : defaultsOf params X.env = ([], [])) (hfree : ∀ y ∈ scope.names, y.2 = .free → ∃ c, X.env.cells.lookup y.1 = some c)
    (h : ∀ (f c' : Addr) (pm ctv : Value) (H1 : Hp) (s' : Shared), Inv X pins σ H1 s' → Off [P] H H1 → TabS H1 P q →
      s'.heap.get? f = some (PySem.W.kla_obj "<lambda>" q params body scope (cloFrom X.env.cells scope.names []) pm c' ctv) → H1 f = none → f ∉ frs X.stack → H1 c' = some (CodeO c' q) → Q (.ref f) s') :
    wpAny (model X.prog X.w) X.A (eval (.Lambda params body scope pos) X.env) Q E s := by
  subst hq
  obtain ⟨ps, hP, ht, ha⟩ := hT
  have out : ∀ f, s.heap.objs.size ≤ f → f ∉ frs X.stack := by
    intro f hf z
    rcases List.mem_cons.mp (I.stkSub _ z) with e | e
    · have lt := I.lt
      rw [← e] at lt
      exact absurd lt (Nat.not_lt.mpr hf)
    · exact I.nofs hf e
  have getP : s.heap.get? P = some { cls := .none, data := .fields ps } := I.hok P _ hP
  have bm := TB.bm.keeps I.bk
  have cd := TB.code.keeps I.bk
  have gl := I.mod.glob.keeps I.bk
  apply PySem.W.kla_eval hdef
  rcases hc : codeAmong pos ps.toList with _ | cv
  · apply PySem.W.kla_makeFunction (mg := X.mg) (c := c) (P := P) (ps := ps) (closure_ok hfree) I.ok.glob gl hcode cd getP ht hc TB.gP bm
    rintro c' ctv h' tk hx hge hlt ⟨c2, oc, vs, t, e2, hoc, hd, hv⟩ htb
    cases e2
    have big : s.heap.objs.size ≤ h'.objs.size := Nat.le_trans hge (Nat.le_of_lt hlt)
    have nC : H c' = none := I.hok.fresh hge
    have J := inv_table (t' := tk) (more := #[rawInt pos.line, rawInt pos.col, .ref c']) (h' := h'.push (PySem.W.kla_obj "<lambda>" (X.env.qual ++ "<lambda>") params body scope (cloFrom X.env.cells scope.names []) ((X.mg "__name__").getD .none) c' ctv)) I hP
      (fun b o hb e => Heap.get?_push_of_some _ (hx b o hb e)) (Heap.get?_push_of_some _ htb) hge ⟨oc, vs, t, Heap.get?_push_of_some _ hoc, hd, hv⟩
    have o := offTab (ps' := ps ++ #[rawInt pos.line, rawInt pos.col, .ref c']) (q := X.env.qual ++ "<lambda>") hP nC
    apply h h'.objs.size c' ((X.mg "__name__").getD .none) ctv _ _ J o ?tab (Heap.get?_push_size _ rfl) ?new (out _ big) upd_same
    case tab =>
      have eL : (ps ++ #[rawInt pos.line, rawInt pos.col, Value.ref c']).toList = ps.toList ++ [rawInt pos.line, rawInt pos.col, .ref c'] := by simp
      refine ⟨_, by rw [upd_ne (ne_of_none hP nC), upd_same], by rw [eL]; exact PySem.TriplesOk_snoc _ _ _ _ ht, ?_⟩
      intro p' cv hcv
      rw [eL] at hcv
      rcases among_app _ ht hcv with z | rfl
      · obtain ⟨c0, e1, e2⟩ := ha p' cv z
        exact ⟨c0, e1, o.at (by simpa using tblNe hP e2 codeO_ne) e2⟩
      · exact ⟨c', rfl, upd_same⟩
    case new =>
      rw [upd_ne (Nat.ne_of_gt hlt), upd_ne (Nat.ne_of_gt (Nat.lt_of_lt_of_le (Heap.lt_size getP) big))]
      exact I.hok.fresh big
  · obtain ⟨c', rfl, hco⟩ := ha pos cv hc
    apply PySem.W.kla_makeFunctionHit (mg := X.mg) (c := c) (P := P) (ps := ps) (closure_ok hfree) I.ok.glob gl hcode cd getP ht hc bm
    intro ctv h' tk hx big
    exact h h'.objs.size c' ((X.mg "__name__").getD .none) ctv H _ (I.kept fun b o e => Heap.get?_push_of_some _ (hx b o e)) (.refl _ _) ⟨ps, hP, ht, ha⟩ (Heap.get?_push_size _ rfl) (I.hok.fresh big) (out _ big) hco
end
/-- x(lambda: body): the table stands at P -/
def tLam1 (P : Addr) (q : Str) (TT : (XK → Hp → VK → Prop) → Hp → VK → Prop) (t : XK → TE) : TE := fun σ H Q => TabS H P q ∧ ∀ H1, Off [P] H H1 → TabS H1 P q → TT (fun E H' Q' => t E σ H' Q') H1 Q
/-- the def that gets the lambda, its function object told -/
structure GetsL (K : PySem.W.Frag) (mg : Str → Option Value) (x a : Str) (Ng : List Str) (sg : Scope) (bg : List Stmt) (g : Addr) (cdv : Value) : Prop where
  hm : mg x = some (.ref g)
  hk : PySem.W.keepIn K (.ref g) = true
  lk : ∃ oc od pg dV kV doc pm an ct osl, K.lookup g = some ⟨oc, od, .func (PySem.W.fnOf x x pg bg sg dV kV doc pm an cdv ct), osl⟩ ∧ L2.Binds K (PySem.W.fnOf x x pg bg sg dV kV doc pm an cdv ct) [a] []
  hc : PySem.W.codeIn K cdv x = true
  sc : FnScope Ng [a] sg
  n0 : Ng[0]? = some a
  va : Vis sg a
theorem pe_lam1 {X : Cx} {TT : (XK → Hp → VK → Prop) → Hp → VK → Prop} {x a q : Str} {g c P : Addr} {k : Nat} {bg : List Stmt} {sg : Scope} {cdv : Value} {Ng : List Str} {params : Arguments} {body : Expr} {scope : Scope} {t : XK → TE} {p lpos pos : Pos}
    (G : GetsL X.K X.mg x a Ng sg bg g cdv) (hG : GivesTo X Ng x sg g cdv bg a q TT) (TB : TabB X.base X.mg c P) (hcode : X.env.code = .ref c) (hr : Room (k + 2) X.A) (L : LamS X.env.scope scope)
    (hbody : ∀ (A : Around) (outer : List Env) (s : Shared) (H : Hp) (E : XK) (f c' : Addr), Room k (A.deeper (lamEnv X scope s.heap.objs.size f c')) → PE (lamCx X A outer s H E scope f c') body (t E))
    (hg : Gl X x := by rfl) (hq : X.env.qual ++ "<lambda>" = q := by rfl) (hdef : defaultsOf params X.env = ([], []) := by rfl) (hbind : ∀ (q : Str) (cl : List (Str × Addr)) (pm cv ctv : Value), bindArgs (PySem.W.kla_fn "<lambda>" q params body scope cl pm cv ctv) ⟨[], []⟩ = pure [] := by intros; rfl)
    (hdb : (x == ("__debug__" : Str)) = false := by decide) (hd : (a == ("__debug__" : Str)) = false := by decide) (hcd : (a == ("__classdict__" : Str)) = false := by decide) :
    PE X (.Call (.Name x p) [.Lambda params body scope lpos] [] pos) (tLam1 P q TT t) := by
  subst hq
  obtain ⟨oc, od, pg, dV, kV, doc, pm, an, ct, osl, lk, hb⟩ := G.lk
  constructor
  rintro pins s σ H Q I ⟨hT, h⟩
  apply wpAny_Call_Name_kw (ld_glob I hg G.hm ?_ hdb)
  refine PySem.W.callWith_K (h₀ := X.base) I.ok.mod.kin G.hk ?_ (by rfl) (by rfl)
  show wpAny _ _ (spliced ((false, eval (.Lambda params body scope lpos) X.env) :: backTo pos (starEach [] X.env))) _ _ s
  apply Calls.spliced_cons
  apply lam_make3 rfl I TB hcode hT hdef (L.has I.ok)
  intro f c' pm' ctv H1 s' I1 o1 T1 hf hfn hfr hco
  refine Calls.spliced_nil ⟨I1.kIn, ?_⟩
  have run : codeAny (model X.prog X.w) X.A (.call (.ref g) ⟨[.ref f], []⟩) (CR C8.CX0 X.stack X.prog X.w H1 s' Q C8.E0) s' := by
    apply run_ofS (N := Ng) (ps := [a]) (us := [.ref f]) (vs := [.ref f]) lk G.hc G.sc hr I1.env0 (hb s' [.ref f] I1.kIn rfl) (.cons rfl .nil) rfl
    intro hr'
    obtain ⟨t', ht', hq'⟩ := hG f c' s' H1 Q (fun E H' Q' => t E σ H' Q')
      (fun W pn xe E p1 p2 tk hW => pe_act (i := 0) I1 L hf hfn hfr (hbind _ _ _ _ _) tk hW hr' (fun A outer s H hr2 => hbody A outer s H E f c' hr2) G.n0 G.va hd hcd) hco (h H1 o1 T1)
    exact ⟨t', ht'.nox, hq'⟩
  refine wpAny_call (codeAny_mono run ?_)
  intro r s2 z
  match r, z with
  | .ok (.ret u), z => exact I1.after z
  | .error e, z => exact (show False from z).elim
  | .ok .next, z => exact z.elim
  | .ok .brk, z => exact z.elim
  | .ok .cont, z => exact z.elim
/-- a name whose slot is told where the slots are as many as the def's names -/
def tVarL (n i : Nat) (v : V) : TE := fun σ H Q => (σ.length = n → σ[i]? = some (some v)) ∧ Q v H
theorem pe_varL {X : Cx} {e : Expr} {i : Nat} {v : V} (h : PE X e (tVar i)) : PE X e (tVarL X.N.length i v) := ⟨fun pins s σ H Q I q => h.run pins s σ H Q I ⟨v, q.1 I.len, q.2⟩⟩
/-- try: call() / except C as e: return e.f / return "" -/
def TTref (C : Addr) (f : Str) : (XK → Hp → VK → Prop) → Hp → VK → Prop := fun tl H Q =>
  tl (fun cls d H' => ∃ dd v, cls = .ref C ∧ d = some dd ∧ H' dd = some (.xd [(f, v)]) ∧ Q v H') H fun _ H' => Q (.str "") H'
end SH
end

section
namespace SH
open PySem PySem.Spec PyProof.Rows L2 LamX
/-! ### lists and tuples repeated; three names at once -/
section
variable {X : Cx} {σ : L2.St} {H : Hp} {Q : VK} {K : PySem.W.Frag} {l a b : Addr} {xs ys : List V} {N : L2.St → Hp → Prop} {R : VK} {Bk Ct : L2.St → Hp → Prop}
theorem g_rep {k : Int} (h : H l = some (.lst xs)) (k0 : 0 ≤ k) (k1 : k ≤ 100000) (hz : xs.length ≤ 100) (q : ∀ p, H p = none → Q (.ref p) (upd H p (.lst (List.replicate k.toNat xs).flatten))) : rRep (.ref l) (.int k) H Q :=
  ⟨l, k, xs, rfl, rfl, h, by omega, by omega, by
    rw [sizeLine_eq]
    have : xs.length * k.toNat ≤ 100 * 100000 := Nat.mul_le_mul hz (by omega)
    omega, q⟩
def rRepB (K : PySem.W.Frag) : R2 := fun x y H Q => ∃ l k xs, x = .ref l ∧ y = .int k ∧ SqT K H l xs ∧ xs ≠ [] ∧ 2 ≤ k ∧ k ≤ 100000 ∧ xs.length ≤ 100 ∧ ∀ p, H p = none → Q (.ref p) (upd H p (.tup (List.replicate k.toNat xs).flatten))
theorem op_repB (hK : X.K = K) : OpR X (binaryOp .Mult) (rRepB K) := by
  subst hK
  intro pins s σ H x y v u Q I rx ry h
  obtain ⟨l, k, xs, rfl, rfl, hT, hne, h1, h2, hz, q⟩ := h
  cases rx
  obtain ⟨t, rfl⟩ := ry
  obtain ⟨its, r, ⟨⟨cls, dd, data, sl⟩, ho, hc, n, hd⟩, hs⟩ := I.tuple hT
  simp only at hc hd
  subst hc hd
  have hle : its.length = xs.length := r.length.symm
  have hn : its ≠ [] := fun e => hne (by
    rw [e] at hle
    exact List.eq_nil_of_length_eq_zero hle.symm)
  have hi : its.toArray.isEmpty = false := by
    cases its with
    | nil => exact absurd rfl hn
    | cons a b => rfl
  have hsz0 : its.toArray.size = xs.length := by rw [List.size_toArray, hle]
  have hm : ((its.toArray.size : Nat) : Int) * k ≤ 10000000 := by
    rw [hsz0]
    have a1 : ((xs.length : Nat) : Int) * k ≤ 100 * k := Int.mul_le_mul_of_nonneg_right (by omega) (by omega)
    omega
  have flen : (List.replicate k.toNat its).flatten.length ≤ sizeLine := by
    rw [PyProof.Rows.lm_len_rep_flat, hle, sizeLine_eq]
    have a1 : k.toNat * xs.length ≤ 100000 * 100 := Nat.mul_le_mul (by omega) hz
    omega
  have c0 : (decide (k < -(2 ^ 63)) || decide (k ≥ 2 ^ 63)) = false := by
    rw [decide_eq_false (by omega), decide_eq_false (by omega)] <;> rfl
  have c1 : (its.toArray.isEmpty || k == 1) = false := by
    rw [hi, Bool.false_or]
    exact beq_eq_false_iff_ne.mpr (by omega)
  have c2 : (decide (k ≤ 0) || its.toArray.isEmpty) = false := by
    rw [hi, Bool.or_false]
    exact decide_eq_false (by omega)
  have c4 : Builtin.Tuple.tupleTooMany (((its.toArray.size : Nat) : Int) * k) = false := by
    unfold Builtin.Tuple.tupleTooMany
    rw [sizeLine_eq]
    exact decide_eq_false (by omega)
  refine wpAny_binaryOp_repeat_ref (T := "tuple") (U := "int") (by decide) ⟨_, ho, rfl⟩ (fun s' => typeIs_int s' k t) noFill_tuple_mul F.fills_int_mul F.slot_int_rmul repeat_tuple F.slot_int_index.lookup
    (call_meets F.slot_int_rmul (typeIs_int s k t) F.entry_int_rmul (F.args_int_rmul_2 _ _) (int_rmul_tuple k t l its.toArray n dd sl)
      ⟨ho, rfl, ⟨_, ho, rfl⟩, call_meets F.slot_tuple_mul ⟨_, ho, rfl⟩ F.entry_tuple_mul (F.args_tuple_mul_2 _ _) (tuple_mulW l its.toArray n dd sl k t c0 c1 c2 (by omega) c4 (by rw [size_rep, List.size_toArray]; exact flen)) ⟨ho, ?_⟩⟩)
  rw [size_rep]
  refine ⟨.ref s.heap.objs.size, _, I.laid (t' := s.toks) (o := .tup (List.replicate k.toNat xs).flatten) (fun b ob q => Heap.get?_push_of_some _ q) (Nat.le_refl _) ?_, rfl, q _ (I.hok.fresh (Nat.le_refl _))⟩
  exact ⟨by rw [PyProof.Rows.lm_len_rep_flat, sizeLine_eq]; have a1 : k.toNat * xs.length ≤ 100000 * 100 := Nat.mul_le_mul (by omega) hz; omega, _, r.rep k.toNat, IsTup.new _ _⟩
theorem g_repB {k : Int} (h : SqT K H l xs) (ne : xs ≠ []) (k0 : 2 ≤ k) (k1 : k ≤ 100000) (hz : xs.length ≤ 100) (q : ∀ p, H p = none → Q (.ref p) (upd H p (.tup (List.replicate k.toNat xs).flatten))) : rRepB K (.ref l) (.int k) H Q := ⟨l, k, xs, rfl, rfl, h, ne, k0, k1, hz, q⟩
theorem op_catAK (hK : X.K = K) : OpR X (binaryOp .Add) (rCatA K) := by subst hK; exact op_catA
/-- t + (v, ..) -/
theorem g_catA (h1 : SqT K H a xs) (h2 : SqT K H b ys) (hz : xs.length + ys.length ≤ sizeLine) (q : ∀ p H', SqT K H' p (xs ++ ys) → Off [] H H' → Q (.ref p) H') : rCatA K (.ref a) (.ref b) H Q := by
  refine ⟨a, b, xs, ys, rfl, rfl, h1, h2, hz, fun e => ?_, fun _ e => ?_, fun _ _ p hp => ?_⟩
  · exact q b H (by rw [e, List.nil_append]; exact h2) (.refl _ _)
  · exact q a H (by rw [e, List.append_nil]; exact h1) (.refl _ _)
  · exact q p _ (.of upd_same) (.new hp)
theorem g_par3 {i j m : Nat} {ta : TA} (q : ta σ H fun vs H1 => ∃ u v w, vs = [u, v, w] ∧ N (((σ.set i (some u)).set j (some v)).set m (some w)) H1) : tPar3 i j m ta ⟨N, R, Bk, Ct⟩ σ H := q
theorem g_par33 {i j m : Nat} {u v w : V} (q : N (((σ.set i (some u)).set j (some v)).set m (some w)) H) : ∃ u' v' w', [u, v, w] = [u', v', w'] ∧ N (((σ.set i (some u')).set j (some v')).set m (some w')) H := ⟨u, v, w, rfl, q⟩
theorem g_isBF {x y : Bool} (q : Q (.bl (decide (x = y))) H) : rIsB (.bl x) (.bl y) H Q := ⟨x, y, rfl, rfl, q⟩
end
/-! #### a def whose code object is known: it makes lambdas -/
/-- the def's code object is c -/
def CodeOf (K : PySem.W.Frag) (mg : Str → Option Value) (x : Str) (c : Addr) : Prop := ∀ f oc od fd osl, mg x = some (.ref f) → K.lookup f = some ⟨oc, od, .func fd, osl⟩ → fd.code = .ref c
section
variable {P : Program} {w : World} {K : PySem.W.Frag} {mg : Str → Option Value} {base : Heap} {x : Str} {st : Stmt} {N ps : List Str} {k : Nat} {sp : Sp} {c : Addr}
theorem TopD.okT (T : TopD K mg x st) (S : FnScope N ps (defScope st)) (hco : CodeOf K mg x c)
    (hb : ∀ (kV doc pm : Value) (an : Option Addr) (cdv ct : Value) (us : List Value), us.length = ps.length → bindArgs (PySem.W.fnOf x x (defArgs st) (defBody st) (defScope st) .none kV doc pm an cdv ct) ⟨us, []⟩ = pure (ps.zip us))
    (len : ∀ vs H Q E, sp vs H Q E → vs.length = ps.length)
    (hbody : ∀ (f : Addr) (A : Around) (outer : List Env) (s : Shared) (H : Hp) (vs : List V) (Q : VK) (E : XK), Room k (A.deeper (envOfC x (defScope st) s.heap.objs.size f (.ref c))) → sp vs H Q E →
      ∃ t, PSs (cxOf (L2N.CX P w) P w K mg base N x (defScope st) f (.ref c) A outer s H E) (defBody st) t ∧ t { nx := fun _ H' => Q .non H', rt := Q } (start N vs) H) : DefOk P w K mg base x (k + 1) ps sp := by
  obtain ⟨f, fd, F, hm⟩ := T
  have hkp := F.kp
  have hbn := F.bindsN hb
  obtain ⟨oc, od, dV, kV, doc, pm, an, cdv, ct, osl, rfl, lk, hcd, _, _⟩ := F.ex
  have e : cdv = .ref c := hco f _ _ _ _ hm lk
  subst e
  exact ⟨f, _, fn_of lk hcd S len fun A outer s H vs Q E hr hsp => hbody f A outer s H vs Q E hr hsp, hm, hkp, hbn⟩
theorem codeOf_tab {h : Heap} {c P' : Addr} (X : K.In h) (G : h.Ns mainGlobals mg) (e : PySem.W.tabIn K x = some (c, P')) : CodeOf K mg x c := by
  intro f oc od fd osl hm lk
  unfold PySem.W.tabIn at e
  split at e
  · rename_i f2 hf
    have e1 := PySem.W.mg_of X G hf
    rw [hm] at e1
    cases e1
    rw [lk] at e
    simp only at e
    split at e
    · rename_i c2 hc
      split at e
      · split at e
        · cases e
          exact hc
        · cases e
      · cases e
    · cases e
  · cases e
end
/-- what is known of the makers' tables at the law's call -/
def TabsOf (q : Program) (h : Heap) : Prop := ∀ (K : PySem.W.Frag) (x : Str) (c P : Addr) (d : DefRec), K.In h → (recsOf q).find? (fun e => e.name == x) = some d → PySem.W.tabIn K x = some (c, P) → PySem.W.CodeHd h c P ∧ h.get? P = some { cls := .none, data := .fields #[] }
theorem walk_ofT5 {l : PySem.W.OpenLaw} {n k : Nat} {q : Program} {loose : List Str} {XP : (Str → Option Value) → Heap → Prop} {YP : World → Heap → Prop} {d : DefRec} {CX : World → CXT} {x : Str}
    (hn : l.most = some n) (hn2 : n ≤ sizeLine) (hdf : d.params.defaults = []) (hr : Room k callerA)
    (F : ∀ (w : World) (mg : Str → Option Value) (fa : Addr) (h : Heap), YP w h → h.Ns mainGlobals mg → mg d.name = some (.ref fa) → TabsOf q h → ∃ K : PySem.W.Frag, K.In h ∧ LawAtS l w K (CX w) k n x mg fa h)
    (hCX : ∀ (w : World) (H : Hp) (s : Shared) (e : Value) (s' : Shared), CX w [] H s (fun _ _ _ => False) e s' → False) :
    PySem.W.WalkO q loose XP YP l.row.toRowW d [] (fun f vs => PySem.call f vs) := by
  refine Att.attach_callB hn hdf fun w s₀ s₁ mg mb fa o pm cd doc a vs ns G Y ho hd hcd hmg hobj hints hlen hbits hg => ?_
  obtain ⟨K, KX, fd, cs, sp, hT, nT, C, hb, hsp, hF⟩ := F w mg fa _ Y G.T.g hmg fun K x c P d X hr ht => PySem.W.tab_of G.T X hr ht
  exact law_callTs KX G.T.g G.T.b G.T.builtins G.T.nolimit hg hT nT C G.T.bmain hobj hints (Nat.le_trans hlen hn2) hr hF hb (fun H hH hS => hsp H a ns hlen hbits hH hS) fun H e s' => hCX w H s₁ e s'
/-- the def's table stands outside what is known -/
def tabB (K : PySem.W.Frag) (x : Str) : Bool := match PySem.W.tabIn K x with
  | some (_, P) => (K.lookup P).isNone
  | none => false
theorem tabB_ok {K : PySem.W.Frag} {x : Str} (h : tabB K x = true) : ∃ c P, PySem.W.tabIn K x = some (c, P) ∧ K.lookup P = none := by
  unfold tabB at h
  split at h
  · rename_i c P e
    exact ⟨c, P, e, by simpa using h⟩
  · cases h
theorem sql_ne {K : PySem.W.Frag} {H : Hp} {a P : Addr} {xs : List V} {ps : Array Value} (h : SqL K H a xs) (hP : H P = some (.tbl ps)) (hn : K.lookup P = none) : a ≠ P := by
  rintro rfl
  rcases h with (h | ⟨o, h⟩) | h
  · rw [hP] at h; cases h
  · rw [hP] at h; cases h
  · obtain ⟨_, _, _, e, _⟩ := h
    rw [hn] at e; cases e
end SH
namespace Hq
open PySem PySem.Spec PyProof.Rows L2 He
/-! ### a Hook that leaves the tables of code objects out -/
def rmT (K : PySem.W.Frag) : PySem.W.Frag := K.filter fun p => match p.2 with
  | ⟨.none, _, .fields vs, _⟩ => !vs.isEmpty
  | _ => true
def frT (n : Nat) (g : Addr → Option Obj) : PySem.W.Frag := rmT (frQ n g)
theorem frT_in {n : Nat} {h : Heap} : (frT n h.get?).In h := by
  intro b o e
  have m0 : (b, o) ∈ frT n h.get? := PySem.W.mem_of_lookupK e
  unfold frT rmT at m0
  have m := (List.mem_filter.mp m0).1
  obtain ⟨a, _, e2⟩ := List.mem_filterMap.mp (show (b, o) ∈ List.filterMap _ _ from m)
  cases q : h.get? a with
  | none => rw [q] at e2; cases e2
  | some u =>
    rw [q] at e2
    cases e2
    exact q
def hookT (n : Nat) (fa : List Fa) (fn : List DefD) (xs : List XD) (ex : PySem.W.Frag → Bool) (prog : Program) : PySem.W.Hook where
  α := AlQ
  obs := fun s => obsQ fa fn xs ex prog (frT n s.heap.get?)
  val := fun _ => valQ fn xs
  says := fun _ h => ∃ K : PySem.W.Frag, K.In h ∧ obsQ fa fn xs ex prog K = valQ fn xs
  of := fun _ _ e => ⟨_, frT_in, e⟩
  keeps := fun _ _ _ ⟨K, hK, c⟩ k => ⟨K, PySem.W.Frag.In.keeps hK k, c⟩
end Hq
end

section
/-! #### the walk's words -/
local macro_rules | `(tactic| walk_at "ne0") => `(tactic| first
  | assumption
  | (refine Ne.symm ?_; assumption))
local macro_rules | `(tactic| walk_at "ne") => `(tactic| first
  | assumption
  | (refine Ne.symm ?_; assumption)
  | (refine' L2.ne_of_none ?gx (by assumption); (case gx => walk_at "hp"))
  | (refine' Ne.symm (L2.ne_of_none ?gx (by assumption)); (case gx => walk_at "hp")))
local macro_rules | `(tactic| walk_at "hp") => `(tactic| first
  | assumption
  | exact L2.upd_same
  | (refine' SH.upd_new ?gh (by assumption); (case gh => walk_at "hp"))
  | (refine' (L2.upd_ne ?gn).trans ?gh; (case gn => walk_at "ne0"); (case gh => walk_at "hp"))
  | (refine' SH.Off.at (by assumption) ?gn ?gh; (case gn => walk_at "nin"); (case gh => walk_at "hp")))
local macro_rules | `(tactic| walk_at "nin") => `(tactic| first
  | exact SH.nin_nil
  | (refine SH.nin_cons ?_ ?_; (· walk_at "ne0"); (· walk_at "nin")))
local macro_rules | `(tactic| walk_at "sq") => `(tactic| first
  | assumption
  | (apply L2.SqL.of; (· walk_at "hp"))
  | (apply L2.SqT.of; (· walk_at "hp"))
  | (refine' SH.seqT_new ?gx (by assumption); (case gx => walk_at "sq"))
  | (refine' SH.seqL_new ?gx (by assumption); (case gx => walk_at "sq"))
  | (refine' SH.Off.seqT (by assumption) ?gx; (case gx => walk_at "sq"))
  | (refine' SH.Off.seqL (by assumption) ?gy ?gx; (case gx => walk_at "sq"); (case gy => walk_at "nin")))
local macro_rules | `(tactic| walk_at "kd") => `(tactic| first
  | assumption | exact SH.KdV.int _ | exact SH.KdV.bl _ | exact SH.KdV.str _ | exact SH.KdV.non
  | (apply SH.KdV.tup; (· walk_at "sq")) | (apply SH.KdV.lst; (· walk_at "sq")))
/-- a way that cannot be -/
local macro_rules | `(tactic| walk_at "no") => `(tactic| (exfalso; first | assumption | omega | contradiction | (simp_all; done)))
/-- one step -/
local macro_rules | `(tactic| walk_at "g1") => `(tactic| with_reducible first
  | refine SH.g_var (by with_unfolding_all rfl) ?_ | refine SH.g_c ?_ | refine SH.g_op ?_ | refine SH.g_un ?_ | refine SH.g_I0 ?_ | refine SH.g_U ?_
  | refine SH.g_eqI ?_ | refine SH.g_neI ?_ | refine SH.g_eqS ?_ | refine SH.g_neS ?_
  | refine SH.g_test ?_ | refine SH.g_B ?_ | refine SH.g_isB ?_ | refine SH.g_and ?_ | refine SH.g_or ?_ | refine SH.g_not ?_ | refine SH.g_andV ?_ | refine SH.g_orV ?_ | refine SH.g_notV ?_ | refine SH.g_ifE ?_ | refine SH.g_chain ?_
  | refine SH.g_nil ?_ | refine SH.g_cons ?_ | refine SH.g_tup ?_ | refine SH.g_lst ?_ | refine SH.g_call ?_ | refine SH.g_fld ?_ | refine SH.g_meth ?_ | refine SH.g_make ?_ | refine SH.g_cb ?_ | refine SH.g_bm ?_
  | refine SH.g_seq ?_ | refine SH.g_asg ?_ | refine SH.g_name ?_ | refine SH.g_drop ?_ | refine SH.g_ret ?_ | refine SH.g_retN ?_ | refine SH.g_next ?_ | refine SH.g_brk ?_ | refine SH.g_cnt ?_ | refine SH.g_ifs ?_ | refine SH.g_par ?_ | refine SH.g_par2 ?_ | refine SH.g_fldS ?_ | refine SH.g_raise ?_ | refine SH.g_rs ?_
  | refine SH.g_sub ?_ | refine SH.g_yes ?_ | refine SH.g_sl ?_ | refine SH.g_noPart ?_ | refine SH.g_part ?_ | refine SH.g_intO ?_ | refine SH.g_dget ?_ | refine SH.g_dput ?_ | refine SH.g_forR ?_ | refine SH.g_forL ?_ | refine SH.g_forT ?_ | refine SH.g_lcR ?_ | refine SH.g_lcL ?_ | refine SH.g_lcT ?_ | refine SH.g_gcons ?_ | refine SH.g_gnil ?_
  | refine SH.br_t ?_ | refine SH.br_f ?_
  | refine SH.g_int ?_ | refine SH.g_abs ?_ | refine SH.g_max2 ?_ | refine SH.g_min2 ?_)
local macro_rules | `(tactic| walk_at "g2") => `(tactic| first
  | walk_at "g1"
  | ((with_reducible refine' SH.g_isiInt ?ga ?gz); (case ga => walk_at "kd"))
  | ((with_reducible refine' SH.g_isiBool ?ga ?gz); (case ga => walk_at "kd"))
  | ((with_reducible refine' SH.g_isiStr ?ga ?gz); (case ga => walk_at "kd"))
  | ((with_reducible refine' SH.g_isiTup ?ga ?gz); (case ga => walk_at "kd"))
  | ((with_reducible refine' SH.g_ixT ?ga ?gb ?gz); (case ga => walk_at "sq"); (case gb => rfl))
  | ((with_reducible refine' SH.g_ixL ?ga ?gb ?gz); (case ga => walk_at "sq"); (case gb => first | rfl | (apply SH.atI_refs; assumption)))
  | ((with_reducible refine SH.br_F ?_ ?_); (· decide +kernel)) | ((with_reducible refine SH.br_T ?_ ?_); (· decide +kernel)) | ((with_reducible refine SH.br_NF ?_ ?_); (· decide +kernel)) | ((with_reducible refine SH.br_NT ?_ ?_); (· decide +kernel))
  | ((with_reducible refine' SH.g_gtup ?ga ?gb ?gz); (case ga => walk_at "sq"); (case gb => rfl))
  | ((with_reducible refine' SH.g_lenT ?ga ?gz); (case ga => walk_at "sq"))
  | ((with_reducible refine' SH.g_lenL ?ga ?gz); (case ga => walk_at "sq"))
  | ((with_reducible refine SH.g_mkT (SH.sz rfl) ?_); intro _ _)
  | ((with_reducible refine SH.g_mkL (SH.sz rfl) ?_); intro _ _)
  | ((with_reducible refine SH.g_dnew ?_); intro _ _)
  | ((with_reducible refine' SH.g_tupL ?ga ?gz); (case ga => walk_at "sq"); intro _ _)
  | ((with_reducible refine' SH.g_lstL ?ga ?gz); (case ga => walk_at "sq"); intro _ _)
  | ((with_reducible refine' SH.g_lstT ?ga ?gz); (case ga => walk_at "sq"); intro _ _)
  | ((with_reducible refine' SH.g_dgR ?ga ?gb ?gz); (case ga => walk_at "hp"); (case gb => walk_at "dv"))
  | ((with_reducible refine' SH.g_fldR ?ga ?gb ?gc ?gd ?gz); (case ga => walk_at "hp"); (case gb => walk_at "cl"); (case gc => walk_at "na"); (case gd => walk_at "fv"))
  | ((with_reducible refine' SH.g_insR ?ga ?gb ?gz); (case ga => walk_at "hp"); (case gb => walk_at "fn"))
  | ((with_reducible refine' SH.g_setL ?ga ?gb ?gz); (case ga => walk_at "hp"); (case gb => rfl))
  | ((with_reducible refine SH.g_I ?_ ?_); (· walk_at "ci"))
  | ((with_reducible refine' SH.g_slL ?ga ?gz); (case ga => walk_at "sq"); intro _ _)
  | ((with_reducible refine' SH.g_cat ?ga ?gb ?gc ?gz); (case ga => walk_at "hp"); (case gb => walk_at "hp"); (case gc => walk_at "ls"); intro _ _))
/-- the side conditions of numbers: a divisor, a factor -/
local macro_rules | `(tactic| walk_at "ci") => `(tactic| first
  | (show _ ≠ _; omega) | (show _ < _; omega) | (constructor <;> omega) | (refine Or.inr ⟨?_, ?_⟩ <;> (show _ < _; omega)) | (refine Or.inl ⟨?_, ?_⟩ <;> (show _ < _; omega)) | (refine ⟨?_, ?_, ?_⟩ <;> decide))
local macro_rules | `(tactic| walk_at "ls") => `(tactic| first | (show _ ≤ _; exact Nat.le_trans (by assumption) (by decide)) | (show _ ≤ _; exact Nat.le_trans (by simp; omega) (by decide : 1000 ≤ sizeLine)))
local macro_rules | `(tactic| walk_at "dv") => `(tactic| rfl)
local macro_rules | `(tactic| walk_at "fv") => `(tactic| rfl)
local macro_rules | `(tactic| walk_at "fn") => `(tactic| rfl)
local macro_rules | `(tactic| walk_at "cl") => `(tactic| assumption)
local macro_rules | `(tactic| walk_at "na") => `(tactic| assumption)
local macro_rules | `(tactic| walk_at "go") => `(tactic| repeat walk_at "g2")
/-- a way is split -/
local macro_rules | `(tactic| walk_at "br") => `(tactic| with_reducible first
  | refine SH.br_d (fun _ => ?_) (fun _ => ?_) | refine SH.br_nd (fun _ => ?_) (fun _ => ?_) | refine SH.br_b (fun _ => ?_) (fun _ => ?_))
/-- all ways -/
local macro_rules | `(tactic| walk_at "all") => `(tactic| repeat' first | walk_at "g2" | (walk_at "br" <;> try (walk_at "no")))
/-- a truth value is the other -/
local macro_rules | `(tactic| walk_at "bq") => `(tactic| first | rfl | (simp_all; done) | (simp_all; omega) | (simp only [decide_eq_true_eq, decide_eq_false_iff_not, Bool.and_eq_true, Bool.or_eq_true] at *; omega))
/-- what was tracked is as it was -/
local macro_rules | `(tactic| walk_at "of") => `(tactic| first
  | assumption
  | exact SH.Off.refl _ _
  | (refine' SH.Off.new2 ?gx (by assumption); (case gx => walk_at "of"))
  | (refine' SH.Off.mut ?gx (by assumption); (case gx => walk_at "of"))
  | (refine' SH.Off.trans' ?gx (by assumption) ?gy; (case gy => (intro _ h; (first | exact h | (simp at h; done) | (simp at h ⊢; simp [h]; done)))); (case gx => walk_at "of")))
namespace SH
open PySem PySem.Spec PyProof.Rows L2
abbrev thePr : Program := PySem.Challenge.pw_surehaul_k05_whole_courses_judged
abbrev s_x_BadArgument : Stmt := inClass (top 3) 0
abbrev s_x_NotPossible : Stmt := inClass (top 4) 0
abbrev s_x_Stopped : Stmt := inClass (top 5) 0
def fa : List He.Fa := [.free "len", .free "range", .free "isinstance", .free "abs", .free "int", .free "bool", .free "str", .free "tuple", .free "dict", .free "list", .free "min", .free "max", .free "any", .free "all", .free "sum", .free "sorted", .free "repr", .free "zip", .free "enumerate", .int "MOST_BOATS" 5, .int "MOST_SHARE" 500, .int "MOST_LANDING" 20, .int "MOST_LATE" 6, .int "MOST_NOW" 1000, .int "MOST_STEPS" 5000, .glo "is_integer", .glo "is_in", .glo "are_between", .glo "demand", .mkr "Plan", .glo "Plan", .meth "Plan" "row", .meth "Plan" "__eq__", .glo "is_season_step", .mkr "Boat", .glo "Boat", .meth "Boat" "row", .mkr "Season", .glo "Season", .meth "Season" "boat_of", .meth "Season" "right", .meth "Season" "landed", .meth "Season" "told", .meth "Season" "heard", .meth "Season" "untold", .meth "Season" "unheard", .meth "Season" "is_broken", .meth "Season" "beyond", .meth "Season" "row", .meth "Season" "__eq__", .meth "Season" "can_do", .meth "Season" "do", .meth "Season" "land", .meth "Season" "change", .meth "Season" "is_late", .meth "Season" "pass_tick", .glo "go_on", .glo "are_steps", .glo "play", .glo "led", .glo "needed", .glo "is_safe", .glo "least_reserve", .glo "landings_of", .glo "course_of", .glo "course_against", .glo "is_against", .glo "_law_dice", .glo "_law_roll", .glo "_law_pick", .glo "_law_refused", .glo "_law_odd_values", .glo "_law_n_plan", .glo "_law_n_made", .glo "_law_n_new", .glo "_law_n_can", .glo "_law_n_do", .glo "_law_n_step", .glo "_law_n_breach", .glo "_law_bent", .glo "_law_right", .glo "law", .cls "Plan", .noat "Plan" "shares", .noat "Plan" "most", .noat "Plan" "late", .noat "Plan" "reserve", .cls "Boat", .noat "Boat" "right", .noat "Boat" "heard", .noat "Boat" "landed", .noat "Boat" "told", .noat "Boat" "untold", .noat "Boat" "unheard", .noat "Boat" "present", .cls "Season", .noat "Season" "plan", .noat "Season" "now", .noat "Season" "_boats", .noat "Season" "_is_broken", .noat "Season" "_beyond", .glo "HaulError", .glo "BadArgument", .glo "NotPossible", .glo "Stopped"]
def fn : List He.DefD := [⟨("is_integer", none), "is_integer", "is_integer", defArgs s_is_integer, defBody s_is_integer, defScope s_is_integer, [], []⟩,
  ⟨("is_in", none), "is_in", "is_in", defArgs s_is_in, defBody s_is_in, defScope s_is_in, [], []⟩,
  ⟨("are_between", none), "are_between", "are_between", defArgs s_are_between, defBody s_are_between, defScope s_are_between, [], []⟩,
  ⟨("demand", none), "demand", "demand", defArgs s_demand, defBody s_demand, defScope s_demand, [], []⟩,
  ⟨("Plan", some "__init__"), "__init__", "Plan.__init__", defArgs s_Plan_init, defBody s_Plan_init, defScope s_Plan_init, [], []⟩,
  ⟨("Plan", some "row"), "row", "Plan.row", defArgs s_Plan_row, defBody s_Plan_row, defScope s_Plan_row, [], []⟩,
  ⟨("Plan", some "__eq__"), "__eq__", "Plan.__eq__", defArgs s_Plan_eq, defBody s_Plan_eq, defScope s_Plan_eq, [], []⟩,
  ⟨("is_season_step", none), "is_season_step", "is_season_step", defArgs s_is_season_step, defBody s_is_season_step, defScope s_is_season_step, [], []⟩,
  ⟨("Boat", some "__init__"), "__init__", "Boat.__init__", defArgs s_Boat_init, defBody s_Boat_init, defScope s_Boat_init, [], []⟩,
  ⟨("Boat", some "row"), "row", "Boat.row", defArgs s_Boat_row, defBody s_Boat_row, defScope s_Boat_row, [], []⟩,
  ⟨("Season", some "__init__"), "__init__", "Season.__init__", defArgs s_Season_init, defBody s_Season_init, defScope s_Season_init, [], []⟩,
  ⟨("Season", some "boat_of"), "boat_of", "Season.boat_of", defArgs s_Season_boat_of, defBody s_Season_boat_of, defScope s_Season_boat_of, [], []⟩,
  ⟨("Season", some "right"), "right", "Season.right", defArgs s_Season_right, defBody s_Season_right, defScope s_Season_right, [], []⟩,
  ⟨("Season", some "landed"), "landed", "Season.landed", defArgs s_Season_landed, defBody s_Season_landed, defScope s_Season_landed, [], []⟩,
  ⟨("Season", some "told"), "told", "Season.told", defArgs s_Season_told, defBody s_Season_told, defScope s_Season_told, [], []⟩,
  ⟨("Season", some "heard"), "heard", "Season.heard", defArgs s_Season_heard, defBody s_Season_heard, defScope s_Season_heard, [], []⟩,
  ⟨("Season", some "untold"), "untold", "Season.untold", defArgs s_Season_untold, defBody s_Season_untold, defScope s_Season_untold, [], []⟩,
  ⟨("Season", some "unheard"), "unheard", "Season.unheard", defArgs s_Season_unheard, defBody s_Season_unheard, defScope s_Season_unheard, [], []⟩,
  ⟨("Season", some "is_broken"), "is_broken", "Season.is_broken", defArgs s_Season_is_broken, defBody s_Season_is_broken, defScope s_Season_is_broken, [], []⟩,
  ⟨("Season", some "beyond"), "beyond", "Season.beyond", defArgs s_Season_beyond, defBody s_Season_beyond, defScope s_Season_beyond, [], []⟩,
  ⟨("Season", some "row"), "row", "Season.row", defArgs s_Season_row, defBody s_Season_row, defScope s_Season_row, [], []⟩,
  ⟨("Season", some "__eq__"), "__eq__", "Season.__eq__", defArgs s_Season_eq, defBody s_Season_eq, defScope s_Season_eq, [], []⟩,
  ⟨("Season", some "can_do"), "can_do", "Season.can_do", defArgs s_Season_can_do, defBody s_Season_can_do, defScope s_Season_can_do, [], []⟩,
  ⟨("Season", some "do"), "do", "Season.do", defArgs s_Season_do, defBody s_Season_do, defScope s_Season_do, [], []⟩,
  ⟨("Season", some "land"), "land", "Season.land", defArgs s_Season_land, defBody s_Season_land, defScope s_Season_land, [], []⟩,
  ⟨("Season", some "change"), "change", "Season.change", defArgs s_Season_change, defBody s_Season_change, defScope s_Season_change, [], []⟩,
  ⟨("Season", some "is_late"), "is_late", "Season.is_late", defArgs s_Season_is_late, defBody s_Season_is_late, defScope s_Season_is_late, [], []⟩,
  ⟨("Season", some "pass_tick"), "pass_tick", "Season.pass_tick", defArgs s_Season_pass_tick, defBody s_Season_pass_tick, defScope s_Season_pass_tick, [], []⟩,
  ⟨("go_on", none), "go_on", "go_on", defArgs s_go_on, defBody s_go_on, defScope s_go_on, [], []⟩,
  ⟨("are_steps", none), "are_steps", "are_steps", defArgs s_are_steps, defBody s_are_steps, defScope s_are_steps, [], []⟩,
  ⟨("play", none), "play", "play", defArgs s_play, defBody s_play, defScope s_play, [], []⟩,
  ⟨("led", none), "led", "led", defArgs s_led, defBody s_led, defScope s_led, [], []⟩,
  ⟨("needed", none), "needed", "needed", defArgs s_needed, defBody s_needed, defScope s_needed, [], []⟩,
  ⟨("is_safe", none), "is_safe", "is_safe", defArgs s_is_safe, defBody s_is_safe, defScope s_is_safe, [], []⟩,
  ⟨("least_reserve", none), "least_reserve", "least_reserve", defArgs s_least_reserve, defBody s_least_reserve, defScope s_least_reserve, [], []⟩,
  ⟨("landings_of", none), "landings_of", "landings_of", defArgs s_landings_of, defBody s_landings_of, defScope s_landings_of, [], []⟩,
  ⟨("course_of", none), "course_of", "course_of", defArgs s_course_of, defBody s_course_of, defScope s_course_of, [], []⟩,
  ⟨("course_against", none), "course_against", "course_against", defArgs s_course_against, defBody s_course_against, defScope s_course_against, [], []⟩,
  ⟨("is_against", none), "is_against", "is_against", defArgs s_is_against, defBody s_is_against, defScope s_is_against, [], []⟩,
  ⟨("_law_dice", none), "_law_dice", "_law_dice", defArgs s_law_dice, defBody s_law_dice, defScope s_law_dice, [], []⟩,
  ⟨("_law_roll", none), "_law_roll", "_law_roll", defArgs s_law_roll, defBody s_law_roll, defScope s_law_roll, [], []⟩,
  ⟨("_law_pick", none), "_law_pick", "_law_pick", defArgs s_law_pick, defBody s_law_pick, defScope s_law_pick, [], []⟩,
  ⟨("_law_refused", none), "_law_refused", "_law_refused", defArgs s_law_refused, defBody s_law_refused, defScope s_law_refused, [], []⟩,
  ⟨("_law_odd_values", none), "_law_odd_values", "_law_odd_values", defArgs s_law_odd_values, defBody s_law_odd_values, defScope s_law_odd_values, [], []⟩,
  ⟨("_law_n_plan", none), "_law_n_plan", "_law_n_plan", defArgs s_law_n_plan, defBody s_law_n_plan, defScope s_law_n_plan, [], []⟩,
  ⟨("_law_n_made", none), "_law_n_made", "_law_n_made", defArgs s_law_n_made, defBody s_law_n_made, defScope s_law_n_made, [], []⟩,
  ⟨("_law_n_new", none), "_law_n_new", "_law_n_new", defArgs s_law_n_new, defBody s_law_n_new, defScope s_law_n_new, [], []⟩,
  ⟨("_law_n_can", none), "_law_n_can", "_law_n_can", defArgs s_law_n_can, defBody s_law_n_can, defScope s_law_n_can, [], []⟩,
  ⟨("_law_n_do", none), "_law_n_do", "_law_n_do", defArgs s_law_n_do, defBody s_law_n_do, defScope s_law_n_do, [], []⟩,
  ⟨("_law_n_step", none), "_law_n_step", "_law_n_step", defArgs s_law_n_step, defBody s_law_n_step, defScope s_law_n_step, [], []⟩,
  ⟨("_law_n_breach", none), "_law_n_breach", "_law_n_breach", defArgs s_law_n_breach, defBody s_law_n_breach, defScope s_law_n_breach, [], []⟩,
  ⟨("_law_bent", none), "_law_bent", "_law_bent", defArgs s_law_bent, defBody s_law_bent, defScope s_law_bent, [], []⟩,
  ⟨("_law_right", none), "_law_right", "_law_right", defArgs s_law_right, defBody s_law_right, defScope s_law_right, [], []⟩,
  ⟨("law", none), "law", "law", defArgs s_law, defBody s_law, defScope s_law, [], []⟩]
def xs : List Hq.XD := [⟨"BadArgument", "name", "BadArgument.__init__", defArgs s_x_BadArgument, defBody s_x_BadArgument, defScope s_x_BadArgument⟩, ⟨"NotPossible", "word", "NotPossible.__init__", defArgs s_x_NotPossible, defBody s_x_NotPossible, defScope s_x_NotPossible⟩, ⟨"Stopped", "place", "Stopped.__init__", defArgs s_x_Stopped, defBody s_x_Stopped, defScope s_x_Stopped⟩]
def exs (K : PySem.W.Frag) : List Bool := [isOwnB K (He.ga K "Plan"), knB K (He.ga K "Plan"), neB K (He.ga K "Plan"), isOwnB K (He.ga K "Boat"), knB K (He.ga K "Boat"), isOwnB K (He.ga K "Season"), knB K (He.ga K "Season"), neB K (He.ga K "Season"), xcB K (He.ga K "BadArgument") "name", xrB K (He.ga K "BadArgument") (He.ga K "HaulError") true, xrB K (He.ga K "BadArgument") (He.ga K "BadArgument") true, xrB K (He.ga K "BadArgument") (He.ga K "NotPossible") false, xrB K (He.ga K "BadArgument") (He.ga K "Stopped") false, xcB K (He.ga K "NotPossible") "word", xrB K (He.ga K "NotPossible") (He.ga K "HaulError") true, xrB K (He.ga K "NotPossible") (He.ga K "BadArgument") false, xrB K (He.ga K "NotPossible") (He.ga K "NotPossible") true, xrB K (He.ga K "NotPossible") (He.ga K "Stopped") false, xcB K (He.ga K "Stopped") "place", xrB K (He.ga K "Stopped") (He.ga K "HaulError") true, xrB K (He.ga K "Stopped") (He.ga K "BadArgument") false, xrB K (He.ga K "Stopped") (He.ga K "NotPossible") false, xrB K (He.ga K "Stopped") (He.ga K "Stopped") true, tabB K "_law_right"]
def ex (K : PySem.W.Frag) : Bool := (exs K).all id
def lawAt : Nat := 49
def loose : List PySem.Str := (["_wall", "HaulError", "ValueError", "BadArgument", "NotPossible", "Stopped", "is_integer", "is_in", "are_between", "demand", "MOST_BOATS", "MOST_SHARE", "MOST_LANDING", "MOST_LATE", "MOST_NOW", "MOST_STEPS", "Plan", "is_season_step", "Boat", "Season", "go_on", "are_steps", "play", "led", "needed", "is_safe", "least_reserve", "landings_of", "course_of", "course_against"] : List PySem.Str) ++ (["is_against", "_law_dice", "_law_roll", "_law_pick", "_law_refused", "_law_odd_values", "_law_n_plan", "_law_n_made", "_law_n_new", "_law_n_can", "_law_n_do", "_law_n_step", "_law_n_breach", "_law_bent"] : List PySem.Str)
def at_law_right : Nat := 48
theorem tab_law_right {K : PySem.W.Frag} (c : Hq.obsQ fa fn xs ex thePr K = Hq.valQ fn xs) : ∃ c P, PySem.W.tabIn K "_law_right" = some (c, P) ∧ K.lookup P = none := tabB_ok (List.all_eq_true.mp (Hq.says_ex c) (tabB K "_law_right") (by simp [exs]))
theorem txt_of {w : World} {K : PySem.W.Frag} {h : Heap} {mg : Str → Option Value} (X : K.In h) (G : h.Ns mainGlobals mg) (c : Hq.obsQ fa fn xs ex thePr K = Hq.valQ fn xs) : Txt thePr w K mg := by
  have F : ∀ f, f ∈ fa → f.ok K = true := fun f hf => Hq.facts_d (Hq.says_d c) hf
  have D : ∀ (i : Nat) (d : He.DefD), fn[i]? = some d → ∃ fd, FunD K d.name d.qual d.params d.body d.scope (d.dvs K) (d.kws K) (He.fAd K d.at_) fd := fun i d hd => (Hq.says_d c).def_ i hd
  have E : ∀ b, b ∈ exs K → b = true := fun b hb => List.all_eq_true.mp (Hq.says_ex c) b hb
  exact {
    blt := { b_len := He.free_ok X G (F (.free "len") (by simp [fa])), b_range := He.free_ok X G (F (.free "range") (by simp [fa])), b_isinstance := He.free_ok X G (F (.free "isinstance") (by simp [fa])), b_abs := He.free_ok X G (F (.free "abs") (by simp [fa])), b_int := He.free_ok X G (F (.free "int") (by simp [fa])), b_bool := He.free_ok X G (F (.free "bool") (by simp [fa])), b_str := He.free_ok X G (F (.free "str") (by simp [fa])), b_tuple := He.free_ok X G (F (.free "tuple") (by simp [fa])), b_dict := He.free_ok X G (F (.free "dict") (by simp [fa])), b_list := He.free_ok X G (F (.free "list") (by simp [fa])), b_min := He.free_ok X G (F (.free "min") (by simp [fa])), b_max := He.free_ok X G (F (.free "max") (by simp [fa])), b_any := He.free_ok X G (F (.free "any") (by simp [fa])), b_all := He.free_ok X G (F (.free "all") (by simp [fa])), b_sum := He.free_ok X G (F (.free "sum") (by simp [fa])), b_sorted := He.free_ok X G (F (.free "sorted") (by simp [fa])), b_repr := He.free_ok X G (F (.free "repr") (by simp [fa])), b_zip := He.free_ok X G (F (.free "zip") (by simp [fa])), b_enumerate := He.free_ok X G (F (.free "enumerate") (by simp [fa])) },
    c_MOST_BOATS := He.int_ok X G (F (.int "MOST_BOATS" 5) (by simp [fa])),
    c_MOST_SHARE := He.int_ok X G (F (.int "MOST_SHARE" 500) (by simp [fa])),
    c_MOST_LANDING := He.int_ok X G (F (.int "MOST_LANDING" 20) (by simp [fa])),
    c_MOST_LATE := He.int_ok X G (F (.int "MOST_LATE" 6) (by simp [fa])),
    c_MOST_NOW := He.int_ok X G (F (.int "MOST_NOW" 1000) (by simp [fa])),
    c_MOST_STEPS := He.int_ok X G (F (.int "MOST_STEPS" 5000) (by simp [fa])),
    d_is_integer := (D 0 ⟨("is_integer", none), "is_integer", "is_integer", defArgs s_is_integer, defBody s_is_integer, defScope s_is_integer, [], []⟩ rfl).elim fun fd h => ⟨_, fd, h, He.glo_ok X G (F (.glo "is_integer") (by simp [fa]))⟩,
    d_is_in := (D 1 ⟨("is_in", none), "is_in", "is_in", defArgs s_is_in, defBody s_is_in, defScope s_is_in, [], []⟩ rfl).elim fun fd h => ⟨_, fd, h, He.glo_ok X G (F (.glo "is_in") (by simp [fa]))⟩,
    d_are_between := (D 2 ⟨("are_between", none), "are_between", "are_between", defArgs s_are_between, defBody s_are_between, defScope s_are_between, [], []⟩ rfl).elim fun fd h => ⟨_, fd, h, He.glo_ok X G (F (.glo "are_between") (by simp [fa]))⟩,
    d_demand := (D 3 ⟨("demand", none), "demand", "demand", defArgs s_demand, defBody s_demand, defScope s_demand, [], []⟩ rfl).elim fun fd h => ⟨_, fd, h, He.glo_ok X G (F (.glo "demand") (by simp [fa]))⟩,
    i_Plan := (D 4 ⟨("Plan", some "__init__"), "__init__", "Plan.__init__", defArgs s_Plan_init, defBody s_Plan_init, defScope s_Plan_init, [], []⟩ rfl).elim fun fd h => ⟨_, fd, h, He.mkr_ok (F (.mkr "Plan") (by simp [fa])), He.glo_ok X G (F (.glo "Plan") (by simp [fa]))⟩,
    m_Plan_row := (D 5 ⟨("Plan", some "row"), "row", "Plan.row", defArgs s_Plan_row, defBody s_Plan_row, defScope s_Plan_row, [], []⟩ rfl).elim fun fd h => ⟨_, fd, h, He.meth_ok (F (.meth "Plan" "row") (by simp [fa]))⟩,
    m_Plan_eq := (D 6 ⟨("Plan", some "__eq__"), "__eq__", "Plan.__eq__", defArgs s_Plan_eq, defBody s_Plan_eq, defScope s_Plan_eq, [], []⟩ rfl).elim fun fd h => ⟨_, fd, h, He.meth_ok (F (.meth "Plan" "__eq__") (by simp [fa]))⟩,
    d_is_season_step := (D 7 ⟨("is_season_step", none), "is_season_step", "is_season_step", defArgs s_is_season_step, defBody s_is_season_step, defScope s_is_season_step, [], []⟩ rfl).elim fun fd h => ⟨_, fd, h, He.glo_ok X G (F (.glo "is_season_step") (by simp [fa]))⟩,
    i_Boat := (D 8 ⟨("Boat", some "__init__"), "__init__", "Boat.__init__", defArgs s_Boat_init, defBody s_Boat_init, defScope s_Boat_init, [], []⟩ rfl).elim fun fd h => ⟨_, fd, h, He.mkr_ok (F (.mkr "Boat") (by simp [fa])), He.glo_ok X G (F (.glo "Boat") (by simp [fa]))⟩,
    m_Boat_row := (D 9 ⟨("Boat", some "row"), "row", "Boat.row", defArgs s_Boat_row, defBody s_Boat_row, defScope s_Boat_row, [], []⟩ rfl).elim fun fd h => ⟨_, fd, h, He.meth_ok (F (.meth "Boat" "row") (by simp [fa]))⟩,
    i_Season := (D 10 ⟨("Season", some "__init__"), "__init__", "Season.__init__", defArgs s_Season_init, defBody s_Season_init, defScope s_Season_init, [], []⟩ rfl).elim fun fd h => ⟨_, fd, h, He.mkr_ok (F (.mkr "Season") (by simp [fa])), He.glo_ok X G (F (.glo "Season") (by simp [fa]))⟩,
    m_Season_boat_of := (D 11 ⟨("Season", some "boat_of"), "boat_of", "Season.boat_of", defArgs s_Season_boat_of, defBody s_Season_boat_of, defScope s_Season_boat_of, [], []⟩ rfl).elim fun fd h => ⟨_, fd, h, He.meth_ok (F (.meth "Season" "boat_of") (by simp [fa]))⟩,
    m_Season_right := (D 12 ⟨("Season", some "right"), "right", "Season.right", defArgs s_Season_right, defBody s_Season_right, defScope s_Season_right, [], []⟩ rfl).elim fun fd h => ⟨_, fd, h, He.meth_ok (F (.meth "Season" "right") (by simp [fa]))⟩,
    m_Season_landed := (D 13 ⟨("Season", some "landed"), "landed", "Season.landed", defArgs s_Season_landed, defBody s_Season_landed, defScope s_Season_landed, [], []⟩ rfl).elim fun fd h => ⟨_, fd, h, He.meth_ok (F (.meth "Season" "landed") (by simp [fa]))⟩,
    m_Season_told := (D 14 ⟨("Season", some "told"), "told", "Season.told", defArgs s_Season_told, defBody s_Season_told, defScope s_Season_told, [], []⟩ rfl).elim fun fd h => ⟨_, fd, h, He.meth_ok (F (.meth "Season" "told") (by simp [fa]))⟩,
    m_Season_heard := (D 15 ⟨("Season", some "heard"), "heard", "Season.heard", defArgs s_Season_heard, defBody s_Season_heard, defScope s_Season_heard, [], []⟩ rfl).elim fun fd h => ⟨_, fd, h, He.meth_ok (F (.meth "Season" "heard") (by simp [fa]))⟩,
    m_Season_untold := (D 16 ⟨("Season", some "untold"), "untold", "Season.untold", defArgs s_Season_untold, defBody s_Season_untold, defScope s_Season_untold, [], []⟩ rfl).elim fun fd h => ⟨_, fd, h, He.meth_ok (F (.meth "Season" "untold") (by simp [fa]))⟩,
    m_Season_unheard := (D 17 ⟨("Season", some "unheard"), "unheard", "Season.unheard", defArgs s_Season_unheard, defBody s_Season_unheard, defScope s_Season_unheard, [], []⟩ rfl).elim fun fd h => ⟨_, fd, h, He.meth_ok (F (.meth "Season" "unheard") (by simp [fa]))⟩,
    m_Season_is_broken := (D 18 ⟨("Season", some "is_broken"), "is_broken", "Season.is_broken", defArgs s_Season_is_broken, defBody s_Season_is_broken, defScope s_Season_is_broken, [], []⟩ rfl).elim fun fd h => ⟨_, fd, h, He.meth_ok (F (.meth "Season" "is_broken") (by simp [fa]))⟩,
    m_Season_beyond := (D 19 ⟨("Season", some "beyond"), "beyond", "Season.beyond", defArgs s_Season_beyond, defBody s_Season_beyond, defScope s_Season_beyond, [], []⟩ rfl).elim fun fd h => ⟨_, fd, h, He.meth_ok (F (.meth "Season" "beyond") (by simp [fa]))⟩,
    m_Season_row := (D 20 ⟨("Season", some "row"), "row", "Season.row", defArgs s_Season_row, defBody s_Season_row, defScope s_Season_row, [], []⟩ rfl).elim fun fd h => ⟨_, fd, h, He.meth_ok (F (.meth "Season" "row") (by simp [fa]))⟩,
    m_Season_eq := (D 21 ⟨("Season", some "__eq__"), "__eq__", "Season.__eq__", defArgs s_Season_eq, defBody s_Season_eq, defScope s_Season_eq, [], []⟩ rfl).elim fun fd h => ⟨_, fd, h, He.meth_ok (F (.meth "Season" "__eq__") (by simp [fa]))⟩,
    m_Season_can_do := (D 22 ⟨("Season", some "can_do"), "can_do", "Season.can_do", defArgs s_Season_can_do, defBody s_Season_can_do, defScope s_Season_can_do, [], []⟩ rfl).elim fun fd h => ⟨_, fd, h, He.meth_ok (F (.meth "Season" "can_do") (by simp [fa]))⟩,
    m_Season_do := (D 23 ⟨("Season", some "do"), "do", "Season.do", defArgs s_Season_do, defBody s_Season_do, defScope s_Season_do, [], []⟩ rfl).elim fun fd h => ⟨_, fd, h, He.meth_ok (F (.meth "Season" "do") (by simp [fa]))⟩,
    m_Season_land := (D 24 ⟨("Season", some "land"), "land", "Season.land", defArgs s_Season_land, defBody s_Season_land, defScope s_Season_land, [], []⟩ rfl).elim fun fd h => ⟨_, fd, h, He.meth_ok (F (.meth "Season" "land") (by simp [fa]))⟩,
    m_Season_change := (D 25 ⟨("Season", some "change"), "change", "Season.change", defArgs s_Season_change, defBody s_Season_change, defScope s_Season_change, [], []⟩ rfl).elim fun fd h => ⟨_, fd, h, He.meth_ok (F (.meth "Season" "change") (by simp [fa]))⟩,
    m_Season_is_late := (D 26 ⟨("Season", some "is_late"), "is_late", "Season.is_late", defArgs s_Season_is_late, defBody s_Season_is_late, defScope s_Season_is_late, [], []⟩ rfl).elim fun fd h => ⟨_, fd, h, He.meth_ok (F (.meth "Season" "is_late") (by simp [fa]))⟩,
    m_Season_pass_tick := (D 27 ⟨("Season", some "pass_tick"), "pass_tick", "Season.pass_tick", defArgs s_Season_pass_tick, defBody s_Season_pass_tick, defScope s_Season_pass_tick, [], []⟩ rfl).elim fun fd h => ⟨_, fd, h, He.meth_ok (F (.meth "Season" "pass_tick") (by simp [fa]))⟩,
    d_go_on := (D 28 ⟨("go_on", none), "go_on", "go_on", defArgs s_go_on, defBody s_go_on, defScope s_go_on, [], []⟩ rfl).elim fun fd h => ⟨_, fd, h, He.glo_ok X G (F (.glo "go_on") (by simp [fa]))⟩,
    d_are_steps := (D 29 ⟨("are_steps", none), "are_steps", "are_steps", defArgs s_are_steps, defBody s_are_steps, defScope s_are_steps, [], []⟩ rfl).elim fun fd h => ⟨_, fd, h, He.glo_ok X G (F (.glo "are_steps") (by simp [fa]))⟩,
    d_play := (D 30 ⟨("play", none), "play", "play", defArgs s_play, defBody s_play, defScope s_play, [], []⟩ rfl).elim fun fd h => ⟨_, fd, h, He.glo_ok X G (F (.glo "play") (by simp [fa]))⟩,
    d_led := (D 31 ⟨("led", none), "led", "led", defArgs s_led, defBody s_led, defScope s_led, [], []⟩ rfl).elim fun fd h => ⟨_, fd, h, He.glo_ok X G (F (.glo "led") (by simp [fa]))⟩,
    d_needed := (D 32 ⟨("needed", none), "needed", "needed", defArgs s_needed, defBody s_needed, defScope s_needed, [], []⟩ rfl).elim fun fd h => ⟨_, fd, h, He.glo_ok X G (F (.glo "needed") (by simp [fa]))⟩,
    d_is_safe := (D 33 ⟨("is_safe", none), "is_safe", "is_safe", defArgs s_is_safe, defBody s_is_safe, defScope s_is_safe, [], []⟩ rfl).elim fun fd h => ⟨_, fd, h, He.glo_ok X G (F (.glo "is_safe") (by simp [fa]))⟩,
    d_least_reserve := (D 34 ⟨("least_reserve", none), "least_reserve", "least_reserve", defArgs s_least_reserve, defBody s_least_reserve, defScope s_least_reserve, [], []⟩ rfl).elim fun fd h => ⟨_, fd, h, He.glo_ok X G (F (.glo "least_reserve") (by simp [fa]))⟩,
    d_landings_of := (D 35 ⟨("landings_of", none), "landings_of", "landings_of", defArgs s_landings_of, defBody s_landings_of, defScope s_landings_of, [], []⟩ rfl).elim fun fd h => ⟨_, fd, h, He.glo_ok X G (F (.glo "landings_of") (by simp [fa]))⟩,
    d_course_of := (D 36 ⟨("course_of", none), "course_of", "course_of", defArgs s_course_of, defBody s_course_of, defScope s_course_of, [], []⟩ rfl).elim fun fd h => ⟨_, fd, h, He.glo_ok X G (F (.glo "course_of") (by simp [fa]))⟩,
    d_course_against := (D 37 ⟨("course_against", none), "course_against", "course_against", defArgs s_course_against, defBody s_course_against, defScope s_course_against, [], []⟩ rfl).elim fun fd h => ⟨_, fd, h, He.glo_ok X G (F (.glo "course_against") (by simp [fa]))⟩,
    d_is_against := (D 38 ⟨("is_against", none), "is_against", "is_against", defArgs s_is_against, defBody s_is_against, defScope s_is_against, [], []⟩ rfl).elim fun fd h => ⟨_, fd, h, He.glo_ok X G (F (.glo "is_against") (by simp [fa]))⟩,
    d_law_dice := (D 39 ⟨("_law_dice", none), "_law_dice", "_law_dice", defArgs s_law_dice, defBody s_law_dice, defScope s_law_dice, [], []⟩ rfl).elim fun fd h => ⟨_, fd, h, He.glo_ok X G (F (.glo "_law_dice") (by simp [fa]))⟩,
    d_law_roll := (D 40 ⟨("_law_roll", none), "_law_roll", "_law_roll", defArgs s_law_roll, defBody s_law_roll, defScope s_law_roll, [], []⟩ rfl).elim fun fd h => ⟨_, fd, h, He.glo_ok X G (F (.glo "_law_roll") (by simp [fa]))⟩,
    d_law_pick := (D 41 ⟨("_law_pick", none), "_law_pick", "_law_pick", defArgs s_law_pick, defBody s_law_pick, defScope s_law_pick, [], []⟩ rfl).elim fun fd h => ⟨_, fd, h, He.glo_ok X G (F (.glo "_law_pick") (by simp [fa]))⟩,
    d_law_refused := (D 42 ⟨("_law_refused", none), "_law_refused", "_law_refused", defArgs s_law_refused, defBody s_law_refused, defScope s_law_refused, [], []⟩ rfl).elim fun fd h => ⟨_, fd, h, He.glo_ok X G (F (.glo "_law_refused") (by simp [fa]))⟩,
    d_law_odd_values := (D 43 ⟨("_law_odd_values", none), "_law_odd_values", "_law_odd_values", defArgs s_law_odd_values, defBody s_law_odd_values, defScope s_law_odd_values, [], []⟩ rfl).elim fun fd h => ⟨_, fd, h, He.glo_ok X G (F (.glo "_law_odd_values") (by simp [fa]))⟩,
    d_law_n_plan := (D 44 ⟨("_law_n_plan", none), "_law_n_plan", "_law_n_plan", defArgs s_law_n_plan, defBody s_law_n_plan, defScope s_law_n_plan, [], []⟩ rfl).elim fun fd h => ⟨_, fd, h, He.glo_ok X G (F (.glo "_law_n_plan") (by simp [fa]))⟩,
    d_law_n_made := (D 45 ⟨("_law_n_made", none), "_law_n_made", "_law_n_made", defArgs s_law_n_made, defBody s_law_n_made, defScope s_law_n_made, [], []⟩ rfl).elim fun fd h => ⟨_, fd, h, He.glo_ok X G (F (.glo "_law_n_made") (by simp [fa]))⟩,
    d_law_n_new := (D 46 ⟨("_law_n_new", none), "_law_n_new", "_law_n_new", defArgs s_law_n_new, defBody s_law_n_new, defScope s_law_n_new, [], []⟩ rfl).elim fun fd h => ⟨_, fd, h, He.glo_ok X G (F (.glo "_law_n_new") (by simp [fa]))⟩,
    d_law_n_can := (D 47 ⟨("_law_n_can", none), "_law_n_can", "_law_n_can", defArgs s_law_n_can, defBody s_law_n_can, defScope s_law_n_can, [], []⟩ rfl).elim fun fd h => ⟨_, fd, h, He.glo_ok X G (F (.glo "_law_n_can") (by simp [fa]))⟩,
    d_law_n_do := (D 48 ⟨("_law_n_do", none), "_law_n_do", "_law_n_do", defArgs s_law_n_do, defBody s_law_n_do, defScope s_law_n_do, [], []⟩ rfl).elim fun fd h => ⟨_, fd, h, He.glo_ok X G (F (.glo "_law_n_do") (by simp [fa]))⟩,
    d_law_n_step := (D 49 ⟨("_law_n_step", none), "_law_n_step", "_law_n_step", defArgs s_law_n_step, defBody s_law_n_step, defScope s_law_n_step, [], []⟩ rfl).elim fun fd h => ⟨_, fd, h, He.glo_ok X G (F (.glo "_law_n_step") (by simp [fa]))⟩,
    d_law_n_breach := (D 50 ⟨("_law_n_breach", none), "_law_n_breach", "_law_n_breach", defArgs s_law_n_breach, defBody s_law_n_breach, defScope s_law_n_breach, [], []⟩ rfl).elim fun fd h => ⟨_, fd, h, He.glo_ok X G (F (.glo "_law_n_breach") (by simp [fa]))⟩,
    d_law_bent := (D 51 ⟨("_law_bent", none), "_law_bent", "_law_bent", defArgs s_law_bent, defBody s_law_bent, defScope s_law_bent, [], []⟩ rfl).elim fun fd h => ⟨_, fd, h, He.glo_ok X G (F (.glo "_law_bent") (by simp [fa]))⟩,
    d_law_right := (D 52 ⟨("_law_right", none), "_law_right", "_law_right", defArgs s_law_right, defBody s_law_right, defScope s_law_right, [], []⟩ rfl).elim fun fd h => ⟨_, fd, h, He.glo_ok X G (F (.glo "_law_right") (by simp [fa]))⟩,
    d_law := (D 53 ⟨("law", none), "law", "law", defArgs s_law, defBody s_law, defScope s_law, [], []⟩ rfl).elim fun fd h => ⟨_, fd, h, He.glo_ok X G (F (.glo "law") (by simp [fa]))⟩,
    cl_Plan := He.cls_ok (F (.cls "Plan") (by simp [fa])),
    is_Plan := isOwnB_ok (E _ (by simp [exs])),
    kn_Plan := knB_ok (E _ (by simp [exs])),
    ne_Plan := neB_ok (E _ (by simp [exs])),
    g_Plan := He.glo_ok X G (F (.glo "Plan") (by simp [fa])),
    na_Plan_shares := He.noat_ok (F (.noat "Plan" "shares") (by simp [fa])),
    na_Plan_most := He.noat_ok (F (.noat "Plan" "most") (by simp [fa])),
    na_Plan_late := He.noat_ok (F (.noat "Plan" "late") (by simp [fa])),
    na_Plan_reserve := He.noat_ok (F (.noat "Plan" "reserve") (by simp [fa])),
    cl_Boat := He.cls_ok (F (.cls "Boat") (by simp [fa])),
    is_Boat := isOwnB_ok (E _ (by simp [exs])),
    kn_Boat := knB_ok (E _ (by simp [exs])),
    g_Boat := He.glo_ok X G (F (.glo "Boat") (by simp [fa])),
    na_Boat_right := He.noat_ok (F (.noat "Boat" "right") (by simp [fa])),
    na_Boat_heard := He.noat_ok (F (.noat "Boat" "heard") (by simp [fa])),
    na_Boat_landed := He.noat_ok (F (.noat "Boat" "landed") (by simp [fa])),
    na_Boat_told := He.noat_ok (F (.noat "Boat" "told") (by simp [fa])),
    na_Boat_untold := He.noat_ok (F (.noat "Boat" "untold") (by simp [fa])),
    na_Boat_unheard := He.noat_ok (F (.noat "Boat" "unheard") (by simp [fa])),
    na_Boat_present := He.noat_ok (F (.noat "Boat" "present") (by simp [fa])),
    cl_Season := He.cls_ok (F (.cls "Season") (by simp [fa])),
    is_Season := isOwnB_ok (E _ (by simp [exs])),
    kn_Season := knB_ok (E _ (by simp [exs])),
    ne_Season := neB_ok (E _ (by simp [exs])),
    g_Season := He.glo_ok X G (F (.glo "Season") (by simp [fa])),
    na_Season_plan := He.noat_ok (F (.noat "Season" "plan") (by simp [fa])),
    na_Season_now := He.noat_ok (F (.noat "Season" "now") (by simp [fa])),
    na_Season__boats := He.noat_ok (F (.noat "Season" "_boats") (by simp [fa])),
    na_Season__is_broken := He.noat_ok (F (.noat "Season" "_is_broken") (by simp [fa])),
    na_Season__beyond := He.noat_ok (F (.noat "Season" "_beyond") (by simp [fa])),
    g_HaulError := He.glo_ok X G (F (.glo "HaulError") (by simp [fa])),
    g_BadArgument := He.glo_ok X G (F (.glo "BadArgument") (by simp [fa])),
    xc_BadArgument := xcB_ok (E _ (by simp [exs])),
    xr_BadArgument_HaulError := xrB_ok (E _ (by simp [exs])),
    xr_BadArgument_BadArgument := xrB_ok (E _ (by simp [exs])),
    xr_BadArgument_NotPossible := xrB_ok (E _ (by simp [exs])),
    xr_BadArgument_Stopped := xrB_ok (E _ (by simp [exs])),
    g_NotPossible := He.glo_ok X G (F (.glo "NotPossible") (by simp [fa])),
    xc_NotPossible := xcB_ok (E _ (by simp [exs])),
    xr_NotPossible_HaulError := xrB_ok (E _ (by simp [exs])),
    xr_NotPossible_BadArgument := xrB_ok (E _ (by simp [exs])),
    xr_NotPossible_NotPossible := xrB_ok (E _ (by simp [exs])),
    xr_NotPossible_Stopped := xrB_ok (E _ (by simp [exs])),
    g_Stopped := He.glo_ok X G (F (.glo "Stopped") (by simp [fa])),
    xc_Stopped := xcB_ok (E _ (by simp [exs])),
    xr_Stopped_HaulError := xrB_ok (E _ (by simp [exs])),
    xr_Stopped_BadArgument := xrB_ok (E _ (by simp [exs])),
    xr_Stopped_NotPossible := xrB_ok (E _ (by simp [exs])),
    xr_Stopped_Stopped := xrB_ok (E _ (by simp [exs])),
    x_BadArgument := xsok_name (Hq.txtB_ok X G nm_name (Hq.says_x c (d := ⟨"BadArgument", "name", "BadArgument.__init__", defArgs s_x_BadArgument, defBody s_x_BadArgument, defScope s_x_BadArgument⟩) (by simp [xs])).1 (Hq.says_x c (d := ⟨"BadArgument", "name", "BadArgument.__init__", defArgs s_x_BadArgument, defBody s_x_BadArgument, defScope s_x_BadArgument⟩) (by simp [xs])).2 rfl rfl rfl (by decide)),
    x_NotPossible := xsok_word (Hq.txtB_ok X G nm_word (Hq.says_x c (d := ⟨"NotPossible", "word", "NotPossible.__init__", defArgs s_x_NotPossible, defBody s_x_NotPossible, defScope s_x_NotPossible⟩) (by simp [xs])).1 (Hq.says_x c (d := ⟨"NotPossible", "word", "NotPossible.__init__", defArgs s_x_NotPossible, defBody s_x_NotPossible, defScope s_x_NotPossible⟩) (by simp [xs])).2 rfl rfl rfl (by decide)),
    x_Stopped := xsok_place (Hq.txtB_ok X G nm_place (Hq.says_x c (d := ⟨"Stopped", "place", "Stopped.__init__", defArgs s_x_Stopped, defBody s_x_Stopped, defScope s_x_Stopped⟩) (by simp [xs])).1 (Hq.says_x c (d := ⟨"Stopped", "place", "Stopped.__init__", defArgs s_x_Stopped, defBody s_x_Stopped, defScope s_x_Stopped⟩) (by simp [xs])).2 rfl rfl rfl (by decide)) }
abbrev R : PySem.W.OpenRow := PySem.W.OpenLaw.row PySem.Challenge.rw_surehaul_k05_whole_courses_judged
abbrev hk : PySem.W.Hook := Hq.hookT 5 fa fn xs ex thePr
def ob (s : PySem.W.SharedT) : Hq.AlQ := Hq.obsQ fa fn xs ex thePr (Hq.frT 5 (HandSHeadRun.getT s))
theorem ob_eq (s : PySem.W.SharedT) : ob s = hk.obs s.abs := by
  have e : (HandSHeadRun.getT s) = s.abs.heap.get? := funext fun a => HandSHeadRun.getT_eq s a
  unfold ob
  rw [e]
  rfl
theorem run (w : World) : HandSHeadRun.RunEq R (PySem.W.view R.prog [at_law_right, lawAt]) hk ob 4000 loose w := by
  intro os
  kernel_rfl
end SH
end

section
/-! #### the walk's words -/
local macro_rules | `(tactic| walk_at "ne0") => `(tactic| first
  | assumption
  | (refine Ne.symm ?_; assumption))
local macro_rules | `(tactic| walk_at "ne") => `(tactic| first
  | assumption
  | (refine Ne.symm ?_; assumption)
  | (refine' L2.ne_of_none ?gx (by assumption); (case gx => walk_at "hp"))
  | (refine' Ne.symm (L2.ne_of_none ?gx (by assumption)); (case gx => walk_at "hp")))
local macro_rules | `(tactic| walk_at "hp") => `(tactic| first
  | assumption
  | exact L2.upd_same
  | (refine' SH.upd_new ?gh (by assumption); (case gh => walk_at "hp"))
  | (refine' (L2.upd_ne ?gn).trans ?gh; (case gn => walk_at "ne0"); (case gh => walk_at "hp"))
  | (refine' SH.Off.at (by assumption) ?gn ?gh; (case gn => walk_at "nin"); (case gh => walk_at "hp")))
local macro_rules | `(tactic| walk_at "nin") => `(tactic| first
  | exact SH.nin_nil
  | (refine SH.nin_cons ?_ ?_; (· walk_at "ne0"); (· walk_at "nin")))
local macro_rules | `(tactic| walk_at "sq") => `(tactic| first
  | assumption
  | (apply L2.SqL.of; (· walk_at "hp"))
  | (apply L2.SqT.of; (· walk_at "hp"))
  | (refine' SH.seqT_new ?gx (by assumption); (case gx => walk_at "sq"))
  | (refine' SH.seqL_new ?gx (by assumption); (case gx => walk_at "sq"))
  | (refine' SH.Off.seqT (by assumption) ?gx; (case gx => walk_at "sq"))
  | (refine' SH.Off.seqL (by assumption) ?gy ?gx; (case gx => walk_at "sq"); (case gy => walk_at "nin")))
local macro_rules | `(tactic| walk_at "kd") => `(tactic| first
  | assumption | exact SH.KdV.int _ | exact SH.KdV.bl _ | exact SH.KdV.str _ | exact SH.KdV.non
  | (apply SH.KdV.tup; (· walk_at "sq")) | (apply SH.KdV.lst; (· walk_at "sq")))
/-- a way that cannot be -/
local macro_rules | `(tactic| walk_at "no") => `(tactic| (exfalso; first | assumption | omega | contradiction | (simp_all; done)))
/-- one step -/
local macro_rules | `(tactic| walk_at "g1") => `(tactic| with_reducible first
  | refine SH.g_var (by with_unfolding_all rfl) ?_ | refine SH.g_c ?_ | refine SH.g_op ?_ | refine SH.g_un ?_ | refine SH.g_I0 ?_ | refine SH.g_U ?_
  | refine SH.g_eqI ?_ | refine SH.g_neI ?_ | refine SH.g_eqS ?_ | refine SH.g_neS ?_
  | refine SH.g_test ?_ | refine SH.g_B ?_ | refine SH.g_isB ?_ | refine SH.g_and ?_ | refine SH.g_or ?_ | refine SH.g_not ?_ | refine SH.g_andV ?_ | refine SH.g_orV ?_ | refine SH.g_notV ?_ | refine SH.g_ifE ?_ | refine SH.g_chain ?_
  | refine SH.g_nil ?_ | refine SH.g_cons ?_ | refine SH.g_tup ?_ | refine SH.g_lst ?_ | refine SH.g_call ?_ | refine SH.g_fld ?_ | refine SH.g_meth ?_ | refine SH.g_make ?_ | refine SH.g_cb ?_ | refine SH.g_bm ?_
  | refine SH.g_seq ?_ | refine SH.g_asg ?_ | refine SH.g_name ?_ | refine SH.g_drop ?_ | refine SH.g_ret ?_ | refine SH.g_retN ?_ | refine SH.g_next ?_ | refine SH.g_brk ?_ | refine SH.g_cnt ?_ | refine SH.g_ifs ?_ | refine SH.g_par ?_ | refine SH.g_par2 ?_ | refine SH.g_fldS ?_ | refine SH.g_raise ?_ | refine SH.g_rs ?_
  | refine SH.g_sub ?_ | refine SH.g_yes ?_ | refine SH.g_sl ?_ | refine SH.g_noPart ?_ | refine SH.g_part ?_ | refine SH.g_intO ?_ | refine SH.g_dget ?_ | refine SH.g_dput ?_ | refine SH.g_forR ?_ | refine SH.g_forL ?_ | refine SH.g_forT ?_ | refine SH.g_lcR ?_ | refine SH.g_lcL ?_ | refine SH.g_lcT ?_ | refine SH.g_gcons ?_ | refine SH.g_gnil ?_
  | refine SH.br_t ?_ | refine SH.br_f ?_
  | refine SH.g_int ?_ | refine SH.g_abs ?_ | refine SH.g_max2 ?_ | refine SH.g_min2 ?_)
local macro_rules | `(tactic| walk_at "g2") => `(tactic| first
  | walk_at "g1"
  | ((with_reducible refine' SH.g_isiInt ?ga ?gz); (case ga => walk_at "kd"))
  | ((with_reducible refine' SH.g_isiBool ?ga ?gz); (case ga => walk_at "kd"))
  | ((with_reducible refine' SH.g_isiStr ?ga ?gz); (case ga => walk_at "kd"))
  | ((with_reducible refine' SH.g_isiTup ?ga ?gz); (case ga => walk_at "kd"))
  | ((with_reducible refine' SH.g_ixT ?ga ?gb ?gz); (case ga => walk_at "sq"); (case gb => rfl))
  | ((with_reducible refine' SH.g_ixL ?ga ?gb ?gz); (case ga => walk_at "sq"); (case gb => first | rfl | (apply SH.atI_refs; assumption)))
  | ((with_reducible refine SH.br_F ?_ ?_); (· decide +kernel)) | ((with_reducible refine SH.br_T ?_ ?_); (· decide +kernel)) | ((with_reducible refine SH.br_NF ?_ ?_); (· decide +kernel)) | ((with_reducible refine SH.br_NT ?_ ?_); (· decide +kernel))
  | ((with_reducible refine' SH.g_gtup ?ga ?gb ?gz); (case ga => walk_at "sq"); (case gb => rfl))
  | ((with_reducible refine' SH.g_lenT ?ga ?gz); (case ga => walk_at "sq"))
  | ((with_reducible refine' SH.g_lenL ?ga ?gz); (case ga => walk_at "sq"))
  | ((with_reducible refine SH.g_mkT (SH.sz rfl) ?_); intro _ _)
  | ((with_reducible refine SH.g_mkL (SH.sz rfl) ?_); intro _ _)
  | ((with_reducible refine SH.g_dnew ?_); intro _ _)
  | ((with_reducible refine' SH.g_tupL ?ga ?gz); (case ga => walk_at "sq"); intro _ _)
  | ((with_reducible refine' SH.g_lstL ?ga ?gz); (case ga => walk_at "sq"); intro _ _)
  | ((with_reducible refine' SH.g_lstT ?ga ?gz); (case ga => walk_at "sq"); intro _ _)
  | ((with_reducible refine' SH.g_dgR ?ga ?gb ?gz); (case ga => walk_at "hp"); (case gb => walk_at "dv"))
  | ((with_reducible refine' SH.g_fldR ?ga ?gb ?gc ?gd ?gz); (case ga => walk_at "hp"); (case gb => walk_at "cl"); (case gc => walk_at "na"); (case gd => walk_at "fv"))
  | ((with_reducible refine' SH.g_insR ?ga ?gb ?gz); (case ga => walk_at "hp"); (case gb => walk_at "fn"))
  | ((with_reducible refine' SH.g_setL ?ga ?gb ?gz); (case ga => walk_at "hp"); (case gb => rfl))
  | ((with_reducible refine SH.g_I ?_ ?_); (· walk_at "ci"))
  | ((with_reducible refine' SH.g_slL ?ga ?gz); (case ga => walk_at "sq"); intro _ _)
  | ((with_reducible refine' SH.g_cat ?ga ?gb ?gc ?gz); (case ga => walk_at "hp"); (case gb => walk_at "hp"); (case gc => walk_at "ls"); intro _ _))
/-- the side conditions of numbers: a divisor, a factor -/
local macro_rules | `(tactic| walk_at "ci") => `(tactic| first
  | (show _ ≠ _; omega) | (show _ < _; omega) | (constructor <;> omega) | (refine Or.inr ⟨?_, ?_⟩ <;> (show _ < _; omega)) | (refine Or.inl ⟨?_, ?_⟩ <;> (show _ < _; omega)) | (refine ⟨?_, ?_, ?_⟩ <;> decide))
local macro_rules | `(tactic| walk_at "ls") => `(tactic| first | (show _ ≤ _; exact Nat.le_trans (by assumption) (by decide)) | (show _ ≤ _; exact Nat.le_trans (by simp; omega) (by decide : 1000 ≤ sizeLine)))
local macro_rules | `(tactic| walk_at "dv") => `(tactic| rfl)
local macro_rules | `(tactic| walk_at "fv") => `(tactic| rfl)
local macro_rules | `(tactic| walk_at "fn") => `(tactic| rfl)
local macro_rules | `(tactic| walk_at "cl") => `(tactic| assumption)
local macro_rules | `(tactic| walk_at "na") => `(tactic| assumption)
local macro_rules | `(tactic| walk_at "go") => `(tactic| repeat walk_at "g2")
/-- a way is split -/
local macro_rules | `(tactic| walk_at "br") => `(tactic| with_reducible first
  | refine SH.br_d (fun _ => ?_) (fun _ => ?_) | refine SH.br_nd (fun _ => ?_) (fun _ => ?_) | refine SH.br_b (fun _ => ?_) (fun _ => ?_))
/-- all ways -/
local macro_rules | `(tactic| walk_at "all") => `(tactic| repeat' first | walk_at "g2" | (walk_at "br" <;> try (walk_at "no")))
/-- a truth value is the other -/
local macro_rules | `(tactic| walk_at "bq") => `(tactic| first | rfl | (simp_all; done) | (simp_all; omega) | (simp only [decide_eq_true_eq, decide_eq_false_iff_not, Bool.and_eq_true, Bool.or_eq_true] at *; omega))
/-- what was tracked is as it was -/
local macro_rules | `(tactic| walk_at "of") => `(tactic| first
  | assumption
  | exact SH.Off.refl _ _
  | (refine' SH.Off.new2 ?gx (by assumption); (case gx => walk_at "of"))
  | (refine' SH.Off.mut ?gx (by assumption); (case gx => walk_at "of"))
  | (refine' SH.Off.trans' ?gx (by assumption) ?gy; (case gy => (intro _ h; (first | exact h | (simp at h; done) | (simp at h ⊢; simp [h]; done)))); (case gx => walk_at "of")))
namespace SH
open PySem PySem.Spec PyProof.Rows L2
/-! ### the law's dice -/
/-- the dice at a: at most c rolls were counted -/
def DiceAt (H : Hp) (a : Addr) (c : Int) : Prop := ∃ x y z : Int, H a = some (.lst [.int x, .int y, .int z]) ∧ 0 ≤ x ∧ 0 ≤ y ∧ y < 2147480009 ∧ 0 ≤ z ∧ z ≤ c
theorem DiceAt.mono {H : Hp} {a : Addr} {c c' : Int} (h : DiceAt H a c) (k : c ≤ c') : DiceAt H a c' := by
  obtain ⟨x, y, z, h1, h2, h3, h4, h5, h6⟩ := h
  exact ⟨x, y, z, h1, h2, h3, h4, h5, Int.le_trans h6 k⟩
theorem DiceAt.off {H H' : Hp} {a : Addr} {c : Int} {S : List Addr} (h : DiceAt H a c) (o : Off S H H') (n : a ∉ S) : DiceAt H' a c := by
  obtain ⟨x, y, z, h1, r⟩ := h
  exact ⟨x, y, z, o.at n h1, r⟩
def spRoll : Sp := fun vs H Q _ => ∃ a n c, vs = [.ref a, .int n] ∧ DiceAt H a c ∧ c ≤ 1000000000 ∧ 0 < n ∧ n < 1073741824 ∧ ∀ r H', 0 ≤ r → r < n → DiceAt H' a (c + 1) → Off [a] H H' → Q (.int r) H'
def spPick (K : PySem.W.Frag) : Sp := fun vs H Q _ => ∃ a l c xs, vs = [.ref a, .ref l] ∧ DiceAt H a c ∧ c ≤ 1000000000 ∧ SqL K H l xs ∧ 0 < xs.length ∧ xs.length < 1000 ∧ a ≠ l ∧ ∀ v H', v ∈ xs → DiceAt H' a (c + 1) → Off [a] H H' → Q v H'
def spDice (K : PySem.W.Frag) : Sp := fun vs H Q _ => ∃ (a : Addr) (spot : Int) (ns : List Int), vs = [.ref a, .int spot] ∧ SqL K H a (ns.map V.int) ∧ ns.length ≤ 63 ∧ 0 ≤ spot ∧ spot < 1000 ∧ ∀ p H', H p = none → DiceAt H' p 0 → Off [] H H' → Q (.ref p) H'
section
variable {P : Program} {w : World} {K : PySem.W.Frag} {mg : Str → Option Value} {base : Heap}
theorem ok_law_roll (T : Txt P w K mg) : DefOk P w K mg base "_law_roll" 1 ["dice", "total"] spRoll := by
  refine T.d_law_roll.ok sc_law_roll (fun _ _ _ _ _ _ us hl => match us, hl with | [_, _], _ => rfl) (fun vs H Q E h => ?_) (fun f cdv A outer s H vs Q E hr h => ?_)
  · obtain ⟨a, n, c, rfl, _⟩ := h
    rfl
  · obtain ⟨a, n, c, rfl, ⟨x, y, z, h1, h2, h3, h4, h5, h6⟩, hc, hn, hn2, q⟩ := h
    have B := T.blt
    have hu := hu_of hr
    refine ⟨_, (pss_cons (ps_if (pt_cmpR op_gt (pe_ix (ix_listK (K := K) rfl) (pv 0) pe_int (fun _ _ => rfl)) pe_int (nomark _))
    (pss_cons (ps_set (i := 2) sc_law_roll.nd rfl (by first | exact Or.inl rfl | exact Or.inr rfl) (pe_op op_modN (pe_callTy c_int (by rfl) B.b_int (by decide +kernel) (pa_cons (pe_ix (ix_listK (K := K) rfl) (pv 0) pe_int (fun _ _ => rfl)) pa_nil)) (pv 1)))
  (pss_cons (ps_asg (pe_op op_fdivN (pe_ix (ix_listK (K := K) rfl) (pv 0) pe_int (fun _ _ => rfl)) (pv 1)) (pg_sub (pv 0) pe_int set_list))
  (pss_one (ps_ret (pv 2)))))
    pss_nil)
  (pss_cons (ps_asg (pe_op op_add (pe_ix (ix_listK (K := K) rfl) (pv 0) pe_int (fun _ _ => rfl)) pe_int) (pg_sub (pv 0) pe_int set_list))
  (pss_cons (ps_asg (pe_op op_modN (pe_callTy c_int (by rfl) B.b_int (by decide +kernel) (pa_cons (pe_op op_add (pe_op op_add (pe_op op_mul (pe_ix (ix_listK (K := K) rfl) (pv 0) pe_int (fun _ _ => rfl)) pe_int) (pe_op op_mul (pe_op op_mul (pe_ix (ix_listK (K := K) rfl) (pv 0) pe_int (fun _ _ => rfl)) (pe_ix (ix_listK (K := K) rfl) (pv 0) pe_int (fun _ _ => rfl))) pe_int)) pe_int) pa_nil)) pe_int) (pg_sub (pv 0) pe_int set_list))
  (pss_one (ps_ret (pe_op op_modN (pe_callTy c_int (by rfl) B.b_int (by decide +kernel) (pa_cons (pe_op op_fdivN (pe_ix (ix_listK (K := K) rfl) (pv 0) pe_int (fun _ _ => rfl)) pe_int) pa_nil)) (pv 1))))))), ?_⟩
    walk_at "all"
    · have e1 := Int.fmod_eq_emod_of_nonneg x (show (0 : Int) ≤ n by omega)
      have e2 := Int.fdiv_eq_ediv_of_nonneg x (show (0 : Int) ≤ n by omega)
      refine q _ _ (by rw [e1]; exact Int.emod_nonneg _ (by omega)) (by rw [e1]; exact Int.emod_lt_of_pos _ hn) ⟨x.fdiv n, y, z, upd_same, by rw [e2]; exact Int.ediv_nonneg h2 (by omega), h3, h4, h5, by omega⟩ (.put (by simp) h1 trivial)
    · generalize hb : (y * 52501 + (z + 1) * (z + 1) * 1009 + 77).fmod 2147480009 = y2
      have e0 := Int.fmod_eq_emod_of_nonneg (y * 52501 + (z + 1) * (z + 1) * 1009 + 77) (show (0 : Int) ≤ 2147480009 by omega)
      rw [hb] at e0
      have y0 : 0 ≤ y2 := by rw [e0]; exact Int.emod_nonneg _ (by omega)
      have y1 : y2 < 2147480009 := by rw [e0]; exact Int.emod_lt_of_pos _ (by omega)
      have e1 := Int.fmod_eq_emod_of_nonneg (y2.fdiv 211) (show (0 : Int) ≤ n by omega)
      refine q _ _ (by rw [e1]; exact Int.emod_nonneg _ (by omega)) (by rw [e1]; exact Int.emod_lt_of_pos _ hn) ⟨x, y2, z + 1, upd_same, h2, y0, y1, by omega, by omega⟩ ?_
      exact (Off.put (by simp) h1 trivial).trans (.put (by simp) upd_same trivial)
theorem ok_law_pick (T : Txt P w K mg) : DefOk P w K mg base "_law_pick" 2 ["dice", "things"] (spPick K) := by
  refine T.d_law_pick.ok sc_law_pick (fun _ _ _ _ _ _ us hl => match us, hl with | [_, _], _ => rfl) (fun vs H Q E h => ?_) (fun f cdv A outer s H vs Q E hr h => ?_)
  · obtain ⟨a, l, c, xs, rfl, _⟩ := h
    rfl
  · obtain ⟨a, l, c, xs, rfl, hd, hc, hl, h1, h2, hne, q⟩ := h
    have B := T.blt
    have hu := hu_of hr
    have G_law_roll := ok_law_roll (base := base) T
    refine ⟨_, (pss_one (ps_ret (pe_ix (ix_listK (K := K) rfl) (pv 1) (pe_df G_law_roll (hr.mono (by decide)) (L2N.passes_call (L2N.takes_of rfl rfl rfl rfl) fun _ _ _ _ z => z) (pa_cons (pv 0) (pa_cons (pe_callB (c_lenK (K := K) rfl) (by rfl) B.b_len PySem.boot_len (pa_cons (pv 1) pa_nil)) pa_nil))) (fun _ _ => rfl)))), ?_⟩
    walk_at "go"
    refine ⟨a, (xs.length : Int), c, rfl, hd, hc, by omega, by omega, fun r H1 r0 r1 d1 o1 => ?_⟩
    obtain ⟨v, hv⟩ : ∃ v, atI xs r = some v := by
      unfold atI ixN
      rw [if_pos r0, if_pos r1]
      exact ⟨xs[r.toNat]'(by omega), by simp⟩
    refine g_ixL (o1.seqL (by simpa using hne.symm) hl) hv (q v H1 ?_ d1 o1)
    unfold atI at hv
    obtain ⟨j, _, hj⟩ := Option.bind_eq_some_iff.mp hv
    exact List.mem_of_getElem? hj
theorem ok_law_dice (T : Txt P w K mg) : DefOk P w K mg base "_law_dice" 1 ["script", "spot"] (spDice K) := by
  refine T.d_law_dice.ok sc_law_dice (fun _ _ _ _ _ _ us hl => match us, hl with | [_, _], _ => rfl) (fun vs H Q E h => ?_) (fun f cdv A outer s H vs Q E hr h => ?_)
  · obtain ⟨a, spot, ns, rfl, _⟩ := h
    rfl
  · obtain ⟨a, spot, ns, rfl, hS, hlen, h0, h1, q⟩ := h
    have B := T.blt
    have hu := hu_of hr
    refine ⟨_, (pss_cut (ps_set (i := 2) sc_law_dice.nd rfl (by first | exact Or.inl rfl | exact Or.inr rfl) (pe_ifExp (pt_cmpR op_lt (pv 1) (pe_callB (c_lenK (K := K) rfl) (by rfl) B.b_len PySem.boot_len (pa_cons (pv 0) pa_nil)) (nomark _)) (pe_ix (ix_listK (K := K) rfl) (pv 0) (pv 1) (fun _ _ => rfl)) (pe_op op_add (pe_op op_mul pe_int (pv 1)) pe_int)))
  (pss_cons (ps_set (i := 3) sc_law_dice.nd rfl (by first | exact Or.inl rfl | exact Or.inr rfl) (pe_op op_add pe_int (pe_op op_mul pe_int (pv 1))))
  (pss_cons (ps_for (passes_of rfl) rfl (pi_listK (K := K) rfl (pe_op op_cat (pe_slice (sl_listK (K := K) rfl) (pv 0) po_none (po_some pe_int)) (pe_lst (pa_cons (pv 2) pa_nil)))) (pg_name (i := 4) sc_law_dice.nd rfl (by first | exact Or.inl rfl | exact Or.inr rfl))
    (pss_one (ps_set (i := 3) sc_law_dice.nd rfl (by first | exact Or.inl rfl | exact Or.inr rfl) (pe_op op_modN (pe_callTy c_int (by rfl) B.b_int (by decide +kernel) (pa_cons (pe_op op_add (pe_op op_mul (pv 3) pe_int) (pe_op op_modN (pe_callTy c_int (by rfl) B.b_int (by decide +kernel) (pa_cons (pv 4) pa_nil)) pe_int)) pa_nil)) pe_int))))
  (pss_one (ps_ret (pe_lst (pa_cons (pe_ifExp (PW.pt (pw_or (pt_cmpR op_lt (pv 2) pe_int (nomark _)) (pw_or1 (pt_cmpR op_ge (pv 2) (pe_op op_pow pe_int pe_int) (nomark _))))) (pe_callB c_abs (by rfl) B.b_abs (by decide +kernel) (pa_cons (pv 2) pa_nil)) pe_int) (pa_cons (pv 3) (pa_cons pe_int pa_nil))))))))), ?_⟩
    refine SH.g_cut (fun σ' H' => ∃ own : Int, σ' = [some (.ref a), some (.int spot), some (.int own), none, none] ∧ H' = H) ?_ ?_
    · walk_at "all"
      · rename_i hlt
        obtain ⟨v, hv, hm, _⟩ := atI_nat' (xs := ns.map V.int) h0 hlt
        obtain ⟨k, _, rfl⟩ := List.mem_map.mp hm
        refine g_ixL hS hv ?_
        walk_at "go"
        exact ⟨k, rfl, rfl⟩
      · exact ⟨733 * spot + 29, rfl, rfl⟩
    · rintro σ' H' ⟨own, rfl, rfl⟩
      walk_at "go"
      rename_i p hp p2 hp2
      have hl1 := cutV_len (ns.map V.int) none (some 6)
      rw [List.length_map] at hl1
      refine g_cat (by walk_at "hp") (by walk_at "hp") (Nat.le_trans (show _ ≤ 1000 by simp; omega) (by decide)) fun p3 hp3 => ?_
      have o3 : Off [] H' (upd (upd (upd H' p (HO.lst (cutV (List.map V.int ns) none (some 6)))) p2 (HO.lst [V.int own])) p3 (HO.lst (cutV (ns.map V.int) none (some 6) ++ [V.int own]))) := ((Off.new hp).new2 hp2).new2 hp3
      refine forL_mk (fun i σ H1 => ∃ m : Int, ∃ c : Option V, σ = [some (.ref a), some (.int spot), some (.int own), some (.int m), c] ∧ 0 ≤ m ∧ (i = 0 ∨ m < 2147480009) ∧ m < 1000000000000 ∧ Off [] H' H1 ∧ H1 p3 = some (.lst (cutV (ns.map V.int) none (some 6) ++ [V.int own])))
        (SqL.of upd_same) ⟨910003 + 7907 * spot, none, rfl, by omega, .inl rfl, by omega, o3, upd_same⟩ (fun i σ H1 _ hp => ?_) (fun i x σ H1 hi hp => ?_) (fun σ H1 hp => ?_)
      · obtain ⟨m, c, _, _, _, _, _, h⟩ := hp
        exact SqL.of h
      · obtain ⟨m, c, rfl, m0, _, m1, o, h⟩ := hp
        obtain ⟨k, rfl⟩ : ∃ k, x = V.int k := by
          rcases List.mem_append.mp (List.mem_of_getElem? hi) with hm | hm
          · obtain ⟨k, _, rfl⟩ := List.mem_map.mp (mem_cutV hm)
            exact ⟨k, rfl⟩
          · exact ⟨own, List.mem_singleton.mp hm⟩
        walk_at "go"
        generalize hb : (m * 48271 + k.fmod 2147480009).fmod 2147480009 = y2
        have e0 := Int.fmod_eq_emod_of_nonneg (m * 48271 + k.fmod 2147480009) (show (0 : Int) ≤ 2147480009 by omega)
        rw [hb] at e0
        have y0 : 0 ≤ y2 := by rw [e0]; exact Int.emod_nonneg _ (by omega)
        have y1 : y2 < 2147480009 := by rw [e0]; exact Int.emod_lt_of_pos _ (by omega)
        exact ⟨y2, _, rfl, y0, .inr y1, by omega, o, h⟩
      · obtain ⟨m, c, rfl, m0, ml, m1, o, h⟩ := hp
        have hm : m < 2147480009 := by
          rcases ml with h | h
          · simp at h
          · exact h
        walk_at "all"
        all_goals (rename_i pz hz; refine q pz _ (o.back hz) ⟨_, m, 0, upd_same, ?_, m0, hm, by omega, by omega⟩ (o.new2 hz))
        all_goals (first | (split <;> omega) | omega)
end
end SH
end

section
/-! #### the walk's words -/
local macro_rules | `(tactic| walk_at "ne0") => `(tactic| first
  | assumption
  | (refine Ne.symm ?_; assumption))
local macro_rules | `(tactic| walk_at "ne") => `(tactic| first
  | assumption
  | (refine Ne.symm ?_; assumption)
  | (refine' L2.ne_of_none ?gx (by assumption); (case gx => walk_at "hp"))
  | (refine' Ne.symm (L2.ne_of_none ?gx (by assumption)); (case gx => walk_at "hp")))
local macro_rules | `(tactic| walk_at "hp") => `(tactic| first
  | assumption
  | exact L2.upd_same
  | (refine' SH.upd_new ?gh (by assumption); (case gh => walk_at "hp"))
  | (refine' (L2.upd_ne ?gn).trans ?gh; (case gn => walk_at "ne0"); (case gh => walk_at "hp"))
  | (refine' SH.Off.at (by assumption) ?gn ?gh; (case gn => walk_at "nin"); (case gh => walk_at "hp")))
local macro_rules | `(tactic| walk_at "nin") => `(tactic| first
  | exact SH.nin_nil
  | (refine SH.nin_cons ?_ ?_; (· walk_at "ne0"); (· walk_at "nin")))
local macro_rules | `(tactic| walk_at "sq") => `(tactic| first
  | assumption
  | (apply L2.SqL.of; (· walk_at "hp"))
  | (apply L2.SqT.of; (· walk_at "hp"))
  | (refine' SH.seqT_new ?gx (by assumption); (case gx => walk_at "sq"))
  | (refine' SH.seqL_new ?gx (by assumption); (case gx => walk_at "sq"))
  | (refine' SH.Off.seqT (by assumption) ?gx; (case gx => walk_at "sq"))
  | (refine' SH.Off.seqL (by assumption) ?gy ?gx; (case gx => walk_at "sq"); (case gy => walk_at "nin")))
local macro_rules | `(tactic| walk_at "kd") => `(tactic| first
  | assumption | exact SH.KdV.int _ | exact SH.KdV.bl _ | exact SH.KdV.str _ | exact SH.KdV.non
  | (apply SH.KdV.tup; (· walk_at "sq")) | (apply SH.KdV.lst; (· walk_at "sq")))
/-- a way that cannot be -/
local macro_rules | `(tactic| walk_at "no") => `(tactic| (exfalso; first | assumption | omega | contradiction | (simp_all; done)))
/-- one step -/
local macro_rules | `(tactic| walk_at "g1") => `(tactic| with_reducible first
  | refine SH.g_var (by with_unfolding_all rfl) ?_ | refine SH.g_c ?_ | refine SH.g_op ?_ | refine SH.g_un ?_ | refine SH.g_I0 ?_ | refine SH.g_U ?_
  | refine SH.g_eqI ?_ | refine SH.g_neI ?_ | refine SH.g_eqS ?_ | refine SH.g_neS ?_
  | refine SH.g_test ?_ | refine SH.g_B ?_ | refine SH.g_isB ?_ | refine SH.g_and ?_ | refine SH.g_or ?_ | refine SH.g_not ?_ | refine SH.g_andV ?_ | refine SH.g_orV ?_ | refine SH.g_notV ?_ | refine SH.g_ifE ?_ | refine SH.g_chain ?_
  | refine SH.g_nil ?_ | refine SH.g_cons ?_ | refine SH.g_tup ?_ | refine SH.g_lst ?_ | refine SH.g_call ?_ | refine SH.g_fld ?_ | refine SH.g_meth ?_ | refine SH.g_make ?_ | refine SH.g_cb ?_ | refine SH.g_bm ?_
  | refine SH.g_seq ?_ | refine SH.g_asg ?_ | refine SH.g_name ?_ | refine SH.g_drop ?_ | refine SH.g_ret ?_ | refine SH.g_retN ?_ | refine SH.g_next ?_ | refine SH.g_brk ?_ | refine SH.g_cnt ?_ | refine SH.g_ifs ?_ | refine SH.g_par ?_ | refine SH.g_par2 ?_ | refine SH.g_fldS ?_ | refine SH.g_raise ?_ | refine SH.g_rs ?_
  | refine SH.g_sub ?_ | refine SH.g_yes ?_ | refine SH.g_sl ?_ | refine SH.g_noPart ?_ | refine SH.g_part ?_ | refine SH.g_intO ?_ | refine SH.g_dget ?_ | refine SH.g_dput ?_ | refine SH.g_forR ?_ | refine SH.g_forL ?_ | refine SH.g_forT ?_ | refine SH.g_lcR ?_ | refine SH.g_lcL ?_ | refine SH.g_lcT ?_ | refine SH.g_gcons ?_ | refine SH.g_gnil ?_
  | refine SH.br_t ?_ | refine SH.br_f ?_
  | refine SH.g_int ?_ | refine SH.g_abs ?_ | refine SH.g_max2 ?_ | refine SH.g_min2 ?_)
local macro_rules | `(tactic| walk_at "g2") => `(tactic| first
  | walk_at "g1"
  | ((with_reducible refine' SH.g_isiInt ?ga ?gz); (case ga => walk_at "kd"))
  | ((with_reducible refine' SH.g_isiBool ?ga ?gz); (case ga => walk_at "kd"))
  | ((with_reducible refine' SH.g_isiStr ?ga ?gz); (case ga => walk_at "kd"))
  | ((with_reducible refine' SH.g_isiTup ?ga ?gz); (case ga => walk_at "kd"))
  | ((with_reducible refine' SH.g_ixT ?ga ?gb ?gz); (case ga => walk_at "sq"); (case gb => rfl))
  | ((with_reducible refine' SH.g_ixL ?ga ?gb ?gz); (case ga => walk_at "sq"); (case gb => first | rfl | (apply SH.atI_refs; assumption)))
  | ((with_reducible refine SH.br_F ?_ ?_); (· decide +kernel)) | ((with_reducible refine SH.br_T ?_ ?_); (· decide +kernel)) | ((with_reducible refine SH.br_NF ?_ ?_); (· decide +kernel)) | ((with_reducible refine SH.br_NT ?_ ?_); (· decide +kernel))
  | ((with_reducible refine' SH.g_gtup ?ga ?gb ?gz); (case ga => walk_at "sq"); (case gb => rfl))
  | ((with_reducible refine' SH.g_lenT ?ga ?gz); (case ga => walk_at "sq"))
  | ((with_reducible refine' SH.g_lenL ?ga ?gz); (case ga => walk_at "sq"))
  | ((with_reducible refine SH.g_mkT (SH.sz rfl) ?_); intro _ _)
  | ((with_reducible refine SH.g_mkL (SH.sz rfl) ?_); intro _ _)
  | ((with_reducible refine SH.g_dnew ?_); intro _ _)
  | ((with_reducible refine' SH.g_tupL ?ga ?gz); (case ga => walk_at "sq"); intro _ _)
  | ((with_reducible refine' SH.g_lstL ?ga ?gz); (case ga => walk_at "sq"); intro _ _)
  | ((with_reducible refine' SH.g_lstT ?ga ?gz); (case ga => walk_at "sq"); intro _ _)
  | ((with_reducible refine' SH.g_dgR ?ga ?gb ?gz); (case ga => walk_at "hp"); (case gb => walk_at "dv"))
  | ((with_reducible refine' SH.g_fldR ?ga ?gb ?gc ?gd ?gz); (case ga => walk_at "hp"); (case gb => walk_at "cl"); (case gc => walk_at "na"); (case gd => walk_at "fv"))
  | ((with_reducible refine' SH.g_insR ?ga ?gb ?gz); (case ga => walk_at "hp"); (case gb => walk_at "fn"))
  | ((with_reducible refine' SH.g_setL ?ga ?gb ?gz); (case ga => walk_at "hp"); (case gb => rfl))
  | ((with_reducible refine SH.g_I ?_ ?_); (· walk_at "ci"))
  | ((with_reducible refine' SH.g_slL ?ga ?gz); (case ga => walk_at "sq"); intro _ _)
  | ((with_reducible refine' SH.g_cat ?ga ?gb ?gc ?gz); (case ga => walk_at "hp"); (case gb => walk_at "hp"); (case gc => walk_at "ls"); intro _ _))
/-- the side conditions of numbers: a divisor, a factor -/
local macro_rules | `(tactic| walk_at "ci") => `(tactic| first
  | (show _ ≠ _; omega) | (show _ < _; omega) | (constructor <;> omega) | (refine Or.inr ⟨?_, ?_⟩ <;> (show _ < _; omega)) | (refine Or.inl ⟨?_, ?_⟩ <;> (show _ < _; omega)) | (refine ⟨?_, ?_, ?_⟩ <;> decide))
local macro_rules | `(tactic| walk_at "ls") => `(tactic| first | (show _ ≤ _; exact Nat.le_trans (by assumption) (by decide)) | (show _ ≤ _; exact Nat.le_trans (by simp; omega) (by decide : 1000 ≤ sizeLine)))
local macro_rules | `(tactic| walk_at "dv") => `(tactic| rfl)
local macro_rules | `(tactic| walk_at "fv") => `(tactic| rfl)
local macro_rules | `(tactic| walk_at "fn") => `(tactic| rfl)
local macro_rules | `(tactic| walk_at "cl") => `(tactic| assumption)
local macro_rules | `(tactic| walk_at "na") => `(tactic| assumption)
local macro_rules | `(tactic| walk_at "go") => `(tactic| repeat walk_at "g2")
/-- a way is split -/
local macro_rules | `(tactic| walk_at "br") => `(tactic| with_reducible first
  | refine SH.br_d (fun _ => ?_) (fun _ => ?_) | refine SH.br_nd (fun _ => ?_) (fun _ => ?_) | refine SH.br_b (fun _ => ?_) (fun _ => ?_))
/-- all ways -/
local macro_rules | `(tactic| walk_at "all") => `(tactic| repeat' first | walk_at "g2" | (walk_at "br" <;> try (walk_at "no")))
/-- a truth value is the other -/
local macro_rules | `(tactic| walk_at "bq") => `(tactic| first | rfl | (simp_all; done) | (simp_all; omega) | (simp only [decide_eq_true_eq, decide_eq_false_iff_not, Bool.and_eq_true, Bool.or_eq_true] at *; omega))
/-- what was tracked is as it was -/
local macro_rules | `(tactic| walk_at "of") => `(tactic| first
  | assumption
  | exact SH.Off.refl _ _
  | (refine' SH.Off.new2 ?gx (by assumption); (case gx => walk_at "of"))
  | (refine' SH.Off.mut ?gx (by assumption); (case gx => walk_at "of"))
  | (refine' SH.Off.trans' ?gx (by assumption) ?gy; (case gy => (intro _ h; (first | exact h | (simp at h; done) | (simp at h ⊢; simp [h]; done)))); (case gx => walk_at "of")))
namespace SH
open PySem PySem.Spec PyProof.Rows L2
theorem DiceAt.new {H : Hp} {a p : Addr} {c : Int} {o : HO} (h : DiceAt H a c) (hp : H p = none) : DiceAt (upd H p o) a c := by
  obtain ⟨x, y, z, h1, r⟩ := h
  exact ⟨x, y, z, by rw [upd_ne (ne_of_none h1 hp)]; exact h1, r⟩
theorem DiceAt.put {H : Hp} {a p : Addr} {c : Int} {o : HO} (h : DiceAt H a c) (hp : a ≠ p) : DiceAt (upd H p o) a c := by
  obtain ⟨x, y, z, h1, r⟩ := h
  exact ⟨x, y, z, by rw [upd_ne hp]; exact h1, r⟩
theorem DiceAt.ne {H : Hp} {a p : Addr} {c : Int} (h : DiceAt H a c) (hp : H p = none) : a ≠ p := by
  obtain ⟨x, y, z, h1, r⟩ := h
  exact ne_of_none h1 hp
theorem g_roll {H : Hp} {Q : VK} {E : XK} {a : Addr} {n c : Int} (h : DiceAt H a c) (hc : c ≤ 1000000000) (h0 : 0 < n) (h1 : n < 1073741824) (q : ∀ r H', 0 ≤ r → r < n → DiceAt H' a (c + 1) → Off [a] H H' → Q (.int r) H') : spRoll [.ref a, .int n] H Q E := ⟨a, n, c, rfl, h, hc, h0, h1, q⟩
/-- a pick of a list of ints that was just laid -/
theorem g_pick {K : PySem.W.Frag} {H : Hp} {Q : VK} {E : XK} {a l : Addr} {c : Int} {ns : List Int} (lo hi : Int) (hl : H l = none) (h : DiceAt H a c) (hc : c ≤ 1000000000) (e : ∀ k ∈ ns, lo ≤ k ∧ k ≤ hi) (h0 : 0 < ns.length) (h1 : ns.length < 1000)
    (q : ∀ k H', k ∈ ns → lo ≤ k → k ≤ hi → DiceAt H' a (c + 1) → Off [a] (upd H l (.lst (ns.map V.int))) H' → Q (.int k) H') : spPick K [.ref a, .ref l] (upd H l (.lst (ns.map V.int))) Q E :=
  ⟨a, l, c, ns.map V.int, rfl, h.new hl, hc, SqL.of upd_same, by simpa using h0, by simpa using h1, h.ne hl, fun v H' hv d o => by
    obtain ⟨k, hk, rfl⟩ := List.mem_map.mp hv
    exact q k H' hk (e k hk).1 (e k hk).2 d o⟩
/-- a plan's numbers as the law draws them -/
structure PlanOk (ss : List Int) (most late reserve : Int) : Prop where
  n0 : 0 < ss.length
  n1 : ss.length ≤ 5
  s0 : ∀ s ∈ ss, 0 ≤ s ∧ s ≤ 500
  m0 : 1 ≤ most
  m1 : most ≤ 20
  l0 : 0 ≤ late
  l1 : late ≤ 6
  r0 : 0 ≤ reserve
  r1 : reserve ≤ 500
def spPlan (K : PySem.W.Frag) : Sp := fun vs H Q _ => ∃ a c, vs = [.ref a] ∧ DiceAt H a c ∧ c ≤ 100000000 ∧ ∀ l p ss most late reserve H', PlanOk ss most late reserve → H l = none → H' l = some (.lst [.ref p, .int most, .int late, .int reserve]) → H p = none → TupN H' p (ss.map V.int) → l ≠ p →
  DiceAt H' a (c + 40) → Off [a] H H' → Q (.ref l) H'
end SH
end

section
/-! #### the walk's words -/
local macro_rules | `(tactic| walk_at "ne0") => `(tactic| first
  | assumption
  | (refine Ne.symm ?_; assumption))
local macro_rules | `(tactic| walk_at "ne") => `(tactic| first
  | assumption
  | (refine Ne.symm ?_; assumption)
  | (refine' L2.ne_of_none ?gx (by assumption); (case gx => walk_at "hp"))
  | (refine' Ne.symm (L2.ne_of_none ?gx (by assumption)); (case gx => walk_at "hp")))
local macro_rules | `(tactic| walk_at "hp") => `(tactic| first
  | assumption
  | exact L2.upd_same
  | (refine' SH.upd_new ?gh (by assumption); (case gh => walk_at "hp"))
  | (refine' (L2.upd_ne ?gn).trans ?gh; (case gn => walk_at "ne0"); (case gh => walk_at "hp"))
  | (refine' SH.Off.at (by assumption) ?gn ?gh; (case gn => walk_at "nin"); (case gh => walk_at "hp")))
local macro_rules | `(tactic| walk_at "nin") => `(tactic| first
  | exact SH.nin_nil
  | (refine SH.nin_cons ?_ ?_; (· walk_at "ne0"); (· walk_at "nin")))
local macro_rules | `(tactic| walk_at "sq") => `(tactic| first
  | assumption
  | (apply L2.SqL.of; (· walk_at "hp"))
  | (apply L2.SqT.of; (· walk_at "hp"))
  | (refine' SH.seqT_new ?gx (by assumption); (case gx => walk_at "sq"))
  | (refine' SH.seqL_new ?gx (by assumption); (case gx => walk_at "sq"))
  | (refine' SH.Off.seqT (by assumption) ?gx; (case gx => walk_at "sq"))
  | (refine' SH.Off.seqL (by assumption) ?gy ?gx; (case gx => walk_at "sq"); (case gy => walk_at "nin")))
local macro_rules | `(tactic| walk_at "kd") => `(tactic| first
  | assumption | exact SH.KdV.int _ | exact SH.KdV.bl _ | exact SH.KdV.str _ | exact SH.KdV.non
  | (apply SH.KdV.tup; (· walk_at "sq")) | (apply SH.KdV.lst; (· walk_at "sq")))
/-- a way that cannot be -/
local macro_rules | `(tactic| walk_at "no") => `(tactic| (exfalso; first | assumption | omega | contradiction | (simp_all; done)))
/-- one step -/
local macro_rules | `(tactic| walk_at "g1") => `(tactic| with_reducible first
  | refine SH.g_var (by with_unfolding_all rfl) ?_ | refine SH.g_c ?_ | refine SH.g_op ?_ | refine SH.g_un ?_ | refine SH.g_I0 ?_ | refine SH.g_U ?_
  | refine SH.g_eqI ?_ | refine SH.g_neI ?_ | refine SH.g_eqS ?_ | refine SH.g_neS ?_
  | refine SH.g_test ?_ | refine SH.g_B ?_ | refine SH.g_isB ?_ | refine SH.g_and ?_ | refine SH.g_or ?_ | refine SH.g_not ?_ | refine SH.g_andV ?_ | refine SH.g_orV ?_ | refine SH.g_notV ?_ | refine SH.g_ifE ?_ | refine SH.g_chain ?_
  | refine SH.g_nil ?_ | refine SH.g_cons ?_ | refine SH.g_tup ?_ | refine SH.g_lst ?_ | refine SH.g_call ?_ | refine SH.g_fld ?_ | refine SH.g_meth ?_ | refine SH.g_make ?_ | refine SH.g_cb ?_ | refine SH.g_bm ?_
  | refine SH.g_seq ?_ | refine SH.g_asg ?_ | refine SH.g_name ?_ | refine SH.g_drop ?_ | refine SH.g_ret ?_ | refine SH.g_retN ?_ | refine SH.g_next ?_ | refine SH.g_brk ?_ | refine SH.g_cnt ?_ | refine SH.g_ifs ?_ | refine SH.g_par ?_ | refine SH.g_par2 ?_ | refine SH.g_fldS ?_ | refine SH.g_raise ?_ | refine SH.g_rs ?_
  | refine SH.g_sub ?_ | refine SH.g_yes ?_ | refine SH.g_sl ?_ | refine SH.g_noPart ?_ | refine SH.g_part ?_ | refine SH.g_intO ?_ | refine SH.g_dget ?_ | refine SH.g_dput ?_ | refine SH.g_forR ?_ | refine SH.g_forL ?_ | refine SH.g_forT ?_ | refine SH.g_lcR ?_ | refine SH.g_lcL ?_ | refine SH.g_lcT ?_ | refine SH.g_gcons ?_ | refine SH.g_gnil ?_
  | refine SH.br_t ?_ | refine SH.br_f ?_
  | refine SH.g_int ?_ | refine SH.g_abs ?_ | refine SH.g_max2 ?_ | refine SH.g_min2 ?_)
local macro_rules | `(tactic| walk_at "g2") => `(tactic| first
  | walk_at "g1"
  | ((with_reducible refine' SH.g_isiInt ?ga ?gz); (case ga => walk_at "kd"))
  | ((with_reducible refine' SH.g_isiBool ?ga ?gz); (case ga => walk_at "kd"))
  | ((with_reducible refine' SH.g_isiStr ?ga ?gz); (case ga => walk_at "kd"))
  | ((with_reducible refine' SH.g_isiTup ?ga ?gz); (case ga => walk_at "kd"))
  | ((with_reducible refine' SH.g_ixT ?ga ?gb ?gz); (case ga => walk_at "sq"); (case gb => rfl))
  | ((with_reducible refine' SH.g_ixL ?ga ?gb ?gz); (case ga => walk_at "sq"); (case gb => first | rfl | (apply SH.atI_refs; assumption)))
  | ((with_reducible refine SH.br_F ?_ ?_); (· decide +kernel)) | ((with_reducible refine SH.br_T ?_ ?_); (· decide +kernel)) | ((with_reducible refine SH.br_NF ?_ ?_); (· decide +kernel)) | ((with_reducible refine SH.br_NT ?_ ?_); (· decide +kernel))
  | ((with_reducible refine' SH.g_gtup ?ga ?gb ?gz); (case ga => walk_at "sq"); (case gb => rfl))
  | ((with_reducible refine' SH.g_lenT ?ga ?gz); (case ga => walk_at "sq"))
  | ((with_reducible refine' SH.g_lenL ?ga ?gz); (case ga => walk_at "sq"))
  | ((with_reducible refine SH.g_mkT (SH.sz rfl) ?_); intro _ _)
  | ((with_reducible refine SH.g_mkL (SH.sz rfl) ?_); intro _ _)
  | ((with_reducible refine SH.g_dnew ?_); intro _ _)
  | ((with_reducible refine' SH.g_tupL ?ga ?gz); (case ga => walk_at "sq"); intro _ _)
  | ((with_reducible refine' SH.g_lstL ?ga ?gz); (case ga => walk_at "sq"); intro _ _)
  | ((with_reducible refine' SH.g_lstT ?ga ?gz); (case ga => walk_at "sq"); intro _ _)
  | ((with_reducible refine' SH.g_dgR ?ga ?gb ?gz); (case ga => walk_at "hp"); (case gb => walk_at "dv"))
  | ((with_reducible refine' SH.g_fldR ?ga ?gb ?gc ?gd ?gz); (case ga => walk_at "hp"); (case gb => walk_at "cl"); (case gc => walk_at "na"); (case gd => walk_at "fv"))
  | ((with_reducible refine' SH.g_insR ?ga ?gb ?gz); (case ga => walk_at "hp"); (case gb => walk_at "fn"))
  | ((with_reducible refine' SH.g_setL ?ga ?gb ?gz); (case ga => walk_at "hp"); (case gb => rfl))
  | ((with_reducible refine SH.g_I ?_ ?_); (· walk_at "ci"))
  | ((with_reducible refine' SH.g_slL ?ga ?gz); (case ga => walk_at "sq"); intro _ _)
  | ((with_reducible refine' SH.g_cat ?ga ?gb ?gc ?gz); (case ga => walk_at "hp"); (case gb => walk_at "hp"); (case gc => walk_at "ls"); intro _ _))
/-- the side conditions of numbers: a divisor, a factor -/
local macro_rules | `(tactic| walk_at "ci") => `(tactic| first
  | (show _ ≠ _; omega) | (show _ < _; omega) | (constructor <;> omega) | (refine Or.inr ⟨?_, ?_⟩ <;> (show _ < _; omega)) | (refine Or.inl ⟨?_, ?_⟩ <;> (show _ < _; omega)) | (refine ⟨?_, ?_, ?_⟩ <;> decide))
local macro_rules | `(tactic| walk_at "ls") => `(tactic| first | (show _ ≤ _; exact Nat.le_trans (by assumption) (by decide)) | (show _ ≤ _; exact Nat.le_trans (by simp; omega) (by decide : 1000 ≤ sizeLine)))
local macro_rules | `(tactic| walk_at "dv") => `(tactic| rfl)
local macro_rules | `(tactic| walk_at "fv") => `(tactic| rfl)
local macro_rules | `(tactic| walk_at "fn") => `(tactic| rfl)
local macro_rules | `(tactic| walk_at "cl") => `(tactic| assumption)
local macro_rules | `(tactic| walk_at "na") => `(tactic| assumption)
local macro_rules | `(tactic| walk_at "go") => `(tactic| repeat walk_at "g2")
/-- a way is split -/
local macro_rules | `(tactic| walk_at "br") => `(tactic| with_reducible first
  | refine SH.br_d (fun _ => ?_) (fun _ => ?_) | refine SH.br_nd (fun _ => ?_) (fun _ => ?_) | refine SH.br_b (fun _ => ?_) (fun _ => ?_))
/-- all ways -/
local macro_rules | `(tactic| walk_at "all") => `(tactic| repeat' first | walk_at "g2" | (walk_at "br" <;> try (walk_at "no")))
/-- a truth value is the other -/
local macro_rules | `(tactic| walk_at "bq") => `(tactic| first | rfl | (simp_all; done) | (simp_all; omega) | (simp only [decide_eq_true_eq, decide_eq_false_iff_not, Bool.and_eq_true, Bool.or_eq_true] at *; omega))
/-- what was tracked is as it was -/
local macro_rules | `(tactic| walk_at "of") => `(tactic| first
  | assumption
  | exact SH.Off.refl _ _
  | (refine' SH.Off.new2 ?gx (by assumption); (case gx => walk_at "of"))
  | (refine' SH.Off.mut ?gx (by assumption); (case gx => walk_at "of"))
  | (refine' SH.Off.trans' ?gx (by assumption) ?gy; (case gy => (intro _ h; (first | exact h | (simp at h; done) | (simp at h ⊢; simp [h]; done)))); (case gx => walk_at "of")))
namespace SH
open PySem PySem.Spec PyProof.Rows L2
/-! ### values.py -/
def spIsInteger (K : PySem.W.Frag) : Sp := fun vs H Q _ => ∃ x k, vs = [x] ∧ KdV K H x k ∧ Q (.bl (k == .int)) H
def inB (lo hi : Int) : V → Bool
  | .int i => decide (lo ≤ i) && decide (i ≤ hi)
  | _ => false
def spIsIn (K : PySem.W.Frag) : Sp := fun vs H Q _ => ∃ x k lo hi, vs = [x, .int lo, .int hi] ∧ KdV K H x k ∧ Q (.bl (inB lo hi x)) H
/-- a tuple whose length is between -/
def btwB (K : PySem.W.Frag) (H : Hp) (lo hi : Int) (x : V) (b : Bool) : Prop :=
  (∃ p xs, x = .ref p ∧ SqT K H p xs ∧ b = (decide (lo ≤ (xs.length : Int)) && decide ((xs.length : Int) ≤ hi))) ∨ (∃ k, KdV K H x k ∧ k ≠ .tup ∧ b = false)
def spAreBetween (K : PySem.W.Frag) : Sp := fun vs H Q _ => ∃ x lo hi b, vs = [x, .int lo, .int hi] ∧ btwB K H lo hi x b ∧ Q (.bl b) H
/-- the wish of an own error: its class at C, its field f holds v -/
def RaiseW (C : Addr) (f : Str) (v : V) (H : Hp) (E : XK) : Prop := ∀ d, H d = none → E (.ref C) (some d) (upd H d (.xd [(f, v)]))
def spDemand (K : PySem.W.Frag) : Sp := fun vs H Q E => ∃ b n, vs = [.bl b, .str n] ∧ (b = true → Q .non H) ∧ (b = false → RaiseW (He.ga K "BadArgument") "name" (.str n) H E)
theorem qb {Q : VK} {a b : Bool} {H : Hp} (q : Q (.bl a) H) (e : a = b) : Q (.bl b) H := e ▸ q
section
variable {P : Program} {w : World} {K : PySem.W.Frag} {mg : Str → Option Value} {base : Heap}
theorem ok_is_integer (T : Txt P w K mg) : DefOk P w K mg base "is_integer" 1 ["value"] (spIsInteger K) := by
  refine T.d_is_integer.ok sc_is_integer (fun _ _ _ _ _ _ us hl => match us, hl with | [_], _ => rfl) (fun vs H Q E h => ?_) (fun f cdv A outer s H vs Q E hr h => ?_)
  · obtain ⟨x, k, rfl, _⟩ := h
    rfl
  · obtain ⟨x, k, rfl, hk, q⟩ := h
    have B := T.blt
    have hu := hu_of hr
    refine ⟨_, (pss_one (ps_ret (pe_and (pe_callB (call_isiK' (K := K) rfl) (by rfl) B.b_isinstance (by decide +kernel) (pa_cons (pv 0) (pa_cons (pe_bltn (v := .ty "int") rfl B.b_int (by decide +kernel) rfl) pa_nil))) (pe_one (pe_not (pe_callB (call_isiK' (K := K) rfl) (by rfl) B.b_isinstance (by decide +kernel) (pa_cons (pv 0) (pa_cons (pe_bltn (v := .ty "bool") rfl B.b_bool (by decide +kernel) rfl) pa_nil)))))))), ?_⟩
    walk_at "all"
    all_goals (refine qb q ?_; cases k <;> simp_all)
theorem ok_is_in (T : Txt P w K mg) : DefOk P w K mg base "is_in" 2 ["value", "low", "high"] (spIsIn K) := by
  refine T.d_is_in.ok sc_is_in (fun _ _ _ _ _ _ us hl => match us, hl with | [_, _, _], _ => rfl) (fun vs H Q E h => ?_) (fun f cdv A outer s H vs Q E hr h => ?_)
  · obtain ⟨x, k, lo, hi, rfl, _⟩ := h
    rfl
  · obtain ⟨x, k, lo, hi, rfl, hk, q⟩ := h
    have B := T.blt
    have hu := hu_of hr
    have G_is_integer := ok_is_integer (base := base) T
    refine ⟨_, (pss_one (ps_ret (pe_and (pe_df G_is_integer (hr.mono (by decide)) (L2N.passes_call (L2N.takes_of rfl rfl rfl rfl) fun _ _ _ _ z => z) (pa_cons (pv 0) pa_nil)) (pe_one (pe_chain op_le op_le (pv 1) (pv 0) (pv 2)))))), ?_⟩
    walk_at "go"
    refine ⟨x, k, rfl, hk, ?_⟩
    cases hk with
    | int i =>
      walk_at "all"
      all_goals (refine qb q ?_; (simp only [inB]; walk_at "bq"))
    | _ =>
      walk_at "all"
      all_goals (refine qb q ?_; first | rfl | (simp only [inB]; walk_at "bq"))
theorem ok_are_between (T : Txt P w K mg) : DefOk P w K mg base "are_between" 1 ["value", "least", "most"] (spAreBetween K) := by
  refine T.d_are_between.ok sc_are_between (fun _ _ _ _ _ _ us hl => match us, hl with | [_, _, _], _ => rfl) (fun vs H Q E h => ?_) (fun f cdv A outer s H vs Q E hr h => ?_)
  · obtain ⟨x, lo, hi, b, rfl, _⟩ := h
    rfl
  · obtain ⟨x, lo, hi, b, rfl, hb, q⟩ := h
    have B := T.blt
    have hu := hu_of hr
    refine ⟨_, (pss_one (ps_ret (pe_and (pe_callB (call_isiK' (K := K) rfl) (by rfl) B.b_isinstance (by decide +kernel) (pa_cons (pv 0) (pa_cons (pe_bltn (v := .ty "tuple") rfl B.b_tuple (by decide +kernel) rfl) pa_nil))) (pe_one (pe_chain op_le op_le (pv 1) (pe_callB (c_lenK (K := K) rfl) (by rfl) B.b_len PySem.boot_len (pa_cons (pv 0) pa_nil)) (pv 2)))))), ?_⟩
    rcases hb with ⟨p, xs, rfl, hp, rfl⟩ | ⟨k, hk, nk, rfl⟩
    · have hk : KdV K H (.ref p) .tup := .tup hp
      walk_at "all"
      all_goals (refine qb q ?_; walk_at "bq")
    · walk_at "all"
      all_goals (first | (refine qb q ?_; simp_all; done) | (exfalso; cases k <;> simp_all))
theorem ok_demand (T : Txt P w K mg) : DefOk P w K mg base "demand" 2 ["is_good", "name"] (spDemand K) := by
  refine T.d_demand.ok sc_demand (fun _ _ _ _ _ _ us hl => match us, hl with | [_, _], _ => rfl) (fun vs H Q E h => ?_) (fun f cdv A outer s H vs Q E hr h => ?_)
  · obtain ⟨b, n, rfl, _⟩ := h
    rfl
  · obtain ⟨b, n, rfl, q1, q2⟩ := h
    have B := T.blt
    have hu := hu_of hr
    have X_BadArgument := T.x_BadArgument
    refine ⟨_, (pss_one (ps_if (pt_not (pt_val (pv 0) (by intro _; rfl)))
    (pss_one (ps_raiseXs rfl X_BadArgument (hr.mono (by decide)) (L2N.takes_of rfl rfl rfl rfl) (pa_cons (pv 1) pa_nil)))
    pss_nil)), ?_⟩
    cases b with
    | true =>
      walk_at "all"
      exact q1 rfl
    | false =>
      walk_at "all"
      exact q2 rfl
end
end SH
end

section
/-! #### the walk's words -/
local macro_rules | `(tactic| walk_at "ne0") => `(tactic| first
  | assumption
  | (refine Ne.symm ?_; assumption))
local macro_rules | `(tactic| walk_at "ne") => `(tactic| first
  | assumption
  | (refine Ne.symm ?_; assumption)
  | (refine' L2.ne_of_none ?gx (by assumption); (case gx => walk_at "hp"))
  | (refine' Ne.symm (L2.ne_of_none ?gx (by assumption)); (case gx => walk_at "hp")))
local macro_rules | `(tactic| walk_at "hp") => `(tactic| first
  | assumption
  | exact L2.upd_same
  | (refine' SH.upd_new ?gh (by assumption); (case gh => walk_at "hp"))
  | (refine' (L2.upd_ne ?gn).trans ?gh; (case gn => walk_at "ne0"); (case gh => walk_at "hp"))
  | (refine' SH.Off.at (by assumption) ?gn ?gh; (case gn => walk_at "nin"); (case gh => walk_at "hp")))
local macro_rules | `(tactic| walk_at "nin") => `(tactic| first
  | exact SH.nin_nil
  | (refine SH.nin_cons ?_ ?_; (· walk_at "ne0"); (· walk_at "nin")))
local macro_rules | `(tactic| walk_at "sq") => `(tactic| first
  | assumption
  | (apply L2.SqL.of; (· walk_at "hp"))
  | (apply L2.SqT.of; (· walk_at "hp"))
  | (refine' SH.seqT_new ?gx (by assumption); (case gx => walk_at "sq"))
  | (refine' SH.seqL_new ?gx (by assumption); (case gx => walk_at "sq"))
  | (refine' SH.Off.seqT (by assumption) ?gx; (case gx => walk_at "sq"))
  | (refine' SH.Off.seqL (by assumption) ?gy ?gx; (case gx => walk_at "sq"); (case gy => walk_at "nin")))
local macro_rules | `(tactic| walk_at "kd") => `(tactic| first
  | assumption | exact SH.KdV.int _ | exact SH.KdV.bl _ | exact SH.KdV.str _ | exact SH.KdV.non
  | (apply SH.KdV.tup; (· walk_at "sq")) | (apply SH.KdV.lst; (· walk_at "sq")))
/-- a way that cannot be -/
local macro_rules | `(tactic| walk_at "no") => `(tactic| (exfalso; first | assumption | omega | contradiction | (simp_all; done)))
/-- one step -/
local macro_rules | `(tactic| walk_at "g1") => `(tactic| with_reducible first
  | refine SH.g_var (by with_unfolding_all rfl) ?_ | refine SH.g_c ?_ | refine SH.g_op ?_ | refine SH.g_un ?_ | refine SH.g_I0 ?_ | refine SH.g_U ?_
  | refine SH.g_eqI ?_ | refine SH.g_neI ?_ | refine SH.g_eqS ?_ | refine SH.g_neS ?_
  | refine SH.g_test ?_ | refine SH.g_B ?_ | refine SH.g_isB ?_ | refine SH.g_and ?_ | refine SH.g_or ?_ | refine SH.g_not ?_ | refine SH.g_andV ?_ | refine SH.g_orV ?_ | refine SH.g_notV ?_ | refine SH.g_ifE ?_ | refine SH.g_chain ?_
  | refine SH.g_nil ?_ | refine SH.g_cons ?_ | refine SH.g_tup ?_ | refine SH.g_lst ?_ | refine SH.g_call ?_ | refine SH.g_fld ?_ | refine SH.g_meth ?_ | refine SH.g_make ?_ | refine SH.g_cb ?_ | refine SH.g_bm ?_
  | refine SH.g_seq ?_ | refine SH.g_asg ?_ | refine SH.g_name ?_ | refine SH.g_drop ?_ | refine SH.g_ret ?_ | refine SH.g_retN ?_ | refine SH.g_next ?_ | refine SH.g_brk ?_ | refine SH.g_cnt ?_ | refine SH.g_ifs ?_ | refine SH.g_par ?_ | refine SH.g_par2 ?_ | refine SH.g_fldS ?_ | refine SH.g_raise ?_ | refine SH.g_rs ?_
  | refine SH.g_sub ?_ | refine SH.g_yes ?_ | refine SH.g_sl ?_ | refine SH.g_noPart ?_ | refine SH.g_part ?_ | refine SH.g_intO ?_ | refine SH.g_dget ?_ | refine SH.g_dput ?_ | refine SH.g_forR ?_ | refine SH.g_forL ?_ | refine SH.g_forT ?_ | refine SH.g_lcR ?_ | refine SH.g_lcL ?_ | refine SH.g_lcT ?_ | refine SH.g_gcons ?_ | refine SH.g_gnil ?_
  | refine SH.br_t ?_ | refine SH.br_f ?_
  | refine SH.g_int ?_ | refine SH.g_abs ?_ | refine SH.g_max2 ?_ | refine SH.g_min2 ?_)
local macro_rules | `(tactic| walk_at "g2") => `(tactic| first
  | walk_at "g1"
  | ((with_reducible refine' SH.g_isiInt ?ga ?gz); (case ga => walk_at "kd"))
  | ((with_reducible refine' SH.g_isiBool ?ga ?gz); (case ga => walk_at "kd"))
  | ((with_reducible refine' SH.g_isiStr ?ga ?gz); (case ga => walk_at "kd"))
  | ((with_reducible refine' SH.g_isiTup ?ga ?gz); (case ga => walk_at "kd"))
  | ((with_reducible refine' SH.g_ixT ?ga ?gb ?gz); (case ga => walk_at "sq"); (case gb => rfl))
  | ((with_reducible refine' SH.g_ixL ?ga ?gb ?gz); (case ga => walk_at "sq"); (case gb => first | rfl | (apply SH.atI_refs; assumption)))
  | ((with_reducible refine SH.br_F ?_ ?_); (· decide +kernel)) | ((with_reducible refine SH.br_T ?_ ?_); (· decide +kernel)) | ((with_reducible refine SH.br_NF ?_ ?_); (· decide +kernel)) | ((with_reducible refine SH.br_NT ?_ ?_); (· decide +kernel))
  | ((with_reducible refine' SH.g_gtup ?ga ?gb ?gz); (case ga => walk_at "sq"); (case gb => rfl))
  | ((with_reducible refine' SH.g_lenT ?ga ?gz); (case ga => walk_at "sq"))
  | ((with_reducible refine' SH.g_lenL ?ga ?gz); (case ga => walk_at "sq"))
  | ((with_reducible refine SH.g_mkT (SH.sz rfl) ?_); intro _ _)
  | ((with_reducible refine SH.g_mkL (SH.sz rfl) ?_); intro _ _)
  | ((with_reducible refine SH.g_dnew ?_); intro _ _)
  | ((with_reducible refine' SH.g_tupL ?ga ?gz); (case ga => walk_at "sq"); intro _ _)
  | ((with_reducible refine' SH.g_lstL ?ga ?gz); (case ga => walk_at "sq"); intro _ _)
  | ((with_reducible refine' SH.g_lstT ?ga ?gz); (case ga => walk_at "sq"); intro _ _)
  | ((with_reducible refine' SH.g_dgR ?ga ?gb ?gz); (case ga => walk_at "hp"); (case gb => walk_at "dv"))
  | ((with_reducible refine' SH.g_fldR ?ga ?gb ?gc ?gd ?gz); (case ga => walk_at "hp"); (case gb => walk_at "cl"); (case gc => walk_at "na"); (case gd => walk_at "fv"))
  | ((with_reducible refine' SH.g_insR ?ga ?gb ?gz); (case ga => walk_at "hp"); (case gb => walk_at "fn"))
  | ((with_reducible refine' SH.g_setL ?ga ?gb ?gz); (case ga => walk_at "hp"); (case gb => rfl))
  | ((with_reducible refine SH.g_I ?_ ?_); (· walk_at "ci"))
  | ((with_reducible refine' SH.g_slL ?ga ?gz); (case ga => walk_at "sq"); intro _ _)
  | ((with_reducible refine' SH.g_cat ?ga ?gb ?gc ?gz); (case ga => walk_at "hp"); (case gb => walk_at "hp"); (case gc => walk_at "ls"); intro _ _))
/-- the side conditions of numbers: a divisor, a factor -/
local macro_rules | `(tactic| walk_at "ci") => `(tactic| first
  | (show _ ≠ _; omega) | (show _ < _; omega) | (constructor <;> omega) | (refine Or.inr ⟨?_, ?_⟩ <;> (show _ < _; omega)) | (refine Or.inl ⟨?_, ?_⟩ <;> (show _ < _; omega)) | (refine ⟨?_, ?_, ?_⟩ <;> decide))
local macro_rules | `(tactic| walk_at "ls") => `(tactic| first | (show _ ≤ _; exact Nat.le_trans (by assumption) (by decide)) | (show _ ≤ _; exact Nat.le_trans (by simp; omega) (by decide : 1000 ≤ sizeLine)))
local macro_rules | `(tactic| walk_at "dv") => `(tactic| rfl)
local macro_rules | `(tactic| walk_at "fv") => `(tactic| rfl)
local macro_rules | `(tactic| walk_at "fn") => `(tactic| rfl)
local macro_rules | `(tactic| walk_at "cl") => `(tactic| assumption)
local macro_rules | `(tactic| walk_at "na") => `(tactic| assumption)
local macro_rules | `(tactic| walk_at "go") => `(tactic| repeat walk_at "g2")
/-- a way is split -/
local macro_rules | `(tactic| walk_at "br") => `(tactic| with_reducible first
  | refine SH.br_d (fun _ => ?_) (fun _ => ?_) | refine SH.br_nd (fun _ => ?_) (fun _ => ?_) | refine SH.br_b (fun _ => ?_) (fun _ => ?_))
/-- all ways -/
local macro_rules | `(tactic| walk_at "all") => `(tactic| repeat' first | walk_at "g2" | (walk_at "br" <;> try (walk_at "no")))
/-- a truth value is the other -/
local macro_rules | `(tactic| walk_at "bq") => `(tactic| first | rfl | (simp_all; done) | (simp_all; omega) | (simp only [decide_eq_true_eq, decide_eq_false_iff_not, Bool.and_eq_true, Bool.or_eq_true] at *; omega))
/-- what was tracked is as it was -/
local macro_rules | `(tactic| walk_at "of") => `(tactic| first
  | assumption
  | exact SH.Off.refl _ _
  | (refine' SH.Off.new2 ?gx (by assumption); (case gx => walk_at "of"))
  | (refine' SH.Off.mut ?gx (by assumption); (case gx => walk_at "of"))
  | (refine' SH.Off.trans' ?gx (by assumption) ?gy; (case gy => (intro _ h; (first | exact h | (simp at h; done) | (simp at h ⊢; simp [h]; done)))); (case gx => walk_at "of")))
namespace SH
open PySem PySem.Spec PyProof.Rows L2
/-! ### a season, plain -/
structure Bt where
  right : Int
  heard : Int
  landed : Int
  told : Int
  untold : List (Int × Int)
  unheard : List (Int × Int)
  present : Int
structure Sea where
  shares : List Int
  most : Int
  late : Int
  reserve : Int
  now : Int
  boats : List Bt
  broken : Bool
  bm : Bool
  bl : Bool
inductive Stp where
  | land (b : Nat) (n : Int) | tell (b : Nat) | hear (b : Nat) | trade (f t : Nat) (n : Int) | tick
def Bt.over (t : Bt) : Bool := decide (t.right < t.landed)
def Bt.isLate (t : Bt) (m : Int) : Bool := (t.untold ++ t.unheard).any fun r => decide (r.1 ≤ m)
def Bt.land (t : Bt) (now n : Int) : Bt := { t with landed := t.landed + n, present := t.present + n, untold := t.untold ++ [(now, n)] }
def Bt.tell (t : Bt) : Bt := { t with told := t.told + (t.untold.headD (0, 0)).2, untold := t.untold.tail }
def Bt.hear (t : Bt) : Bt := { t with heard := t.heard + (t.unheard.headD (0, 0)).2, unheard := t.unheard.tail }
def Bt.change (t : Bt) (now n : Int) : Bt := { t with right := t.right + n, unheard := t.unheard ++ [(now, n)] }
def Bt.new (share : Int) : Bt := ⟨share, share, 0, 0, [], [], 0⟩
def Sea.new (ss : List Int) (most late reserve : Int) : Sea := ⟨ss, most, late, reserve, 0, ss.map Bt.new, false, false, false⟩
def Sea.can (s : Sea) : Stp → Bool
  | .tick => decide (s.now < 1000)
  | .land b n => (s.boats[b]?).any fun t => decide (t.landed + n ≤ t.heard)
  | .tell b => (s.boats[b]?).any fun t => !t.untold.isEmpty
  | .hear b => (s.boats[b]?).any fun t => !t.unheard.isEmpty
  | .trade f _ n => (s.boats[f]?).any fun t => decide (s.reserve ≤ t.right - t.told - n)
def Sea.look (s : Sea) : Sea := { s with broken := s.broken || s.boats.any Bt.over }
def Sea.do' (s : Sea) : Stp → Sea
  | .tick => { s with bl := s.bl || s.boats.any (fun t => t.isLate (s.now - s.late)), now := s.now + 1, boats := s.boats.map fun t => { t with present := 0 } }
  | .land b n => Sea.look { s with boats := s.boats.modify b fun t => t.land s.now n, bm := s.bm || (s.boats[b]?).any fun t => decide (s.most < t.present + n) }
  | .tell b => Sea.look { s with boats := s.boats.modify b Bt.tell }
  | .hear b => Sea.look { s with boats := s.boats.modify b Bt.hear }
  | .trade f t n => Sea.look { s with boats := (s.boats.modify f fun x => x.change s.now (-n)).modify t fun x => x.change s.now n }
/-- a step has the form of one, for so many boats -/
def Stp.ok (k : Nat) : Stp → Prop
  | .tick => True
  | .land b n => b < k ∧ 1 ≤ n ∧ n ≤ 20
  | .tell b => b < k
  | .hear b => b < k
  | .trade f t n => f < k ∧ t < k ∧ f ≠ t ∧ 1 ≤ n ∧ n ≤ 500
/-- what holds of a season behind at most c steps -/
structure Sea.Good (s : Sea) (c : Nat) : Prop where
  plan : PlanOk s.shares s.most s.late s.reserve
  len : s.boats.length = s.shares.length
  ub : ∀ t ∈ s.boats, t.untold.length ≤ 2 * c ∧ t.unheard.length ≤ 2 * c
  br : s.boats.any Bt.over = true → s.broken = true
  n0 : 0 ≤ s.now
theorem Sea.Good.mono {s : Sea} {c c' : Nat} (g : s.Good c) (h : c ≤ c') : s.Good c' := ⟨g.plan, g.len, fun t ht => by have := g.ub t ht; omega, g.br, g.n0⟩
theorem mem_modify {α : Type} {f : α → α} {x : α} : ∀ {l : List α} {i : Nat}, x ∈ l.modify i f → x ∈ l ∨ ∃ y ∈ l, x = f y
  | [], i, h => by simp at h
  | y :: l, 0, h => by
    simp only [List.modify_zero_cons, List.mem_cons] at h
    rcases h with rfl | h
    · exact .inr ⟨y, List.mem_cons_self, rfl⟩
    · exact .inl (List.mem_cons_of_mem _ h)
  | y :: l, i + 1, h => by
    simp only [List.modify_succ_cons, List.mem_cons] at h
    rcases h with rfl | h
    · exact .inl List.mem_cons_self
    · rcases mem_modify h with h | ⟨z, hz, rfl⟩
      · exact .inl (List.mem_cons_of_mem _ h)
      · exact .inr ⟨z, List.mem_cons_of_mem _ hz, rfl⟩
theorem Sea.new_good {ss : List Int} {most late reserve : Int} (h : PlanOk ss most late reserve) : (Sea.new ss most late reserve).Good 0 where
  plan := h
  len := by simp [Sea.new]
  ub := fun t ht => by
    obtain ⟨s, _, rfl⟩ := List.mem_map.mp ht
    exact ⟨Nat.le_refl _, Nat.le_refl _⟩
  br := fun e => by
    obtain ⟨t, ht, hv⟩ := List.any_eq_true.mp e
    obtain ⟨s, hs, rfl⟩ := List.mem_map.mp ht
    have := (h.s0 s hs).1
    have hv' : s < 0 := of_decide_eq_true hv
    omega
  n0 := by simp [Sea.new]
theorem Sea.look_br (s : Sea) : s.look.boats.any Bt.over = true → s.look.broken = true := fun h => by
  show (s.broken || s.boats.any Bt.over) = true
  rw [show s.boats.any Bt.over = true from h, Bool.or_true]
theorem Sea.do_good {s : Sea} {c : Nat} (g : s.Good c) (st : Stp) : (s.do' st).Good (c + 1) := by
  have mb : ∀ {l : List Bt} {i : Nat} {f : Bt → Bt} {k : Nat}, (∀ t ∈ l, t.untold.length ≤ k ∧ t.unheard.length ≤ k) → (∀ t, (f t).untold.length ≤ t.untold.length + 1 ∧ (f t).unheard.length ≤ t.unheard.length + 1) →
      ∀ t ∈ l.modify i f, t.untold.length ≤ k + 1 ∧ t.unheard.length ≤ k + 1 := fun {l i f k} h1 h2 t ht => by
    rcases mem_modify ht with ht | ⟨y, hy, rfl⟩
    · have := h1 t ht; omega
    · have a := h1 y hy
      have b := h2 y
      omega
  cases st with
  | tick =>
    refine ⟨g.plan, by simpa [Sea.do'] using g.len, fun t ht => ?_, fun e => g.br ?_, by have := g.n0; show 0 ≤ s.now + 1; omega⟩
    · obtain ⟨y, hy, rfl⟩ := List.mem_map.mp ht
      have := g.ub y hy
      refine ⟨?_, ?_⟩
      · show y.untold.length ≤ _
        omega
      · show y.unheard.length ≤ _
        omega
    · obtain ⟨t, ht, hv⟩ := List.any_eq_true.mp e
      obtain ⟨y, hy, rfl⟩ := List.mem_map.mp ht
      exact List.any_eq_true.mpr ⟨y, hy, hv⟩
  | land b n =>
    refine ⟨g.plan, by simpa [Sea.do', Sea.look] using g.len, fun x hx => ?_, Sea.look_br _, g.n0⟩
    have z := mb g.ub (fun t => by simp [Bt.land]) x hx
    omega
  | tell b =>
    refine ⟨g.plan, by simpa [Sea.do', Sea.look] using g.len, fun x hx => ?_, Sea.look_br _, g.n0⟩
    have z := mb g.ub (fun t => by simp [Bt.tell]; omega) x hx
    omega
  | hear b =>
    refine ⟨g.plan, by simpa [Sea.do', Sea.look] using g.len, fun x hx => ?_, Sea.look_br _, g.n0⟩
    have z := mb g.ub (fun t => by simp [Bt.hear]; omega) x hx
    omega
  | trade f t n =>
    refine ⟨g.plan, by simpa [Sea.do', Sea.look] using g.len, fun x hx => ?_, Sea.look_br _, g.n0⟩
    have z := mb (i := t) (f := fun x => x.change s.now n) (mb (i := f) (f := fun x => x.change s.now (-n)) g.ub fun t => by simp [Bt.change]) (fun t => by simp [Bt.change]) x hx
    omega
end SH
end

section
/-! #### the walk's words -/
local macro_rules | `(tactic| walk_at "ne0") => `(tactic| first
  | assumption
  | (refine Ne.symm ?_; assumption))
local macro_rules | `(tactic| walk_at "ne") => `(tactic| first
  | assumption
  | (refine Ne.symm ?_; assumption)
  | (refine' L2.ne_of_none ?gx (by assumption); (case gx => walk_at "hp"))
  | (refine' Ne.symm (L2.ne_of_none ?gx (by assumption)); (case gx => walk_at "hp")))
local macro_rules | `(tactic| walk_at "hp") => `(tactic| first
  | assumption
  | exact L2.upd_same
  | (refine' SH.upd_new ?gh (by assumption); (case gh => walk_at "hp"))
  | (refine' (L2.upd_ne ?gn).trans ?gh; (case gn => walk_at "ne0"); (case gh => walk_at "hp"))
  | (refine' SH.Off.at (by assumption) ?gn ?gh; (case gn => walk_at "nin"); (case gh => walk_at "hp")))
local macro_rules | `(tactic| walk_at "nin") => `(tactic| first
  | exact SH.nin_nil
  | (refine SH.nin_cons ?_ ?_; (· walk_at "ne0"); (· walk_at "nin")))
local macro_rules | `(tactic| walk_at "sq") => `(tactic| first
  | assumption
  | (apply L2.SqL.of; (· walk_at "hp"))
  | (apply L2.SqT.of; (· walk_at "hp"))
  | (refine' SH.seqT_new ?gx (by assumption); (case gx => walk_at "sq"))
  | (refine' SH.seqL_new ?gx (by assumption); (case gx => walk_at "sq"))
  | (refine' SH.Off.seqT (by assumption) ?gx; (case gx => walk_at "sq"))
  | (refine' SH.Off.seqL (by assumption) ?gy ?gx; (case gx => walk_at "sq"); (case gy => walk_at "nin")))
local macro_rules | `(tactic| walk_at "kd") => `(tactic| first
  | assumption | exact SH.KdV.int _ | exact SH.KdV.bl _ | exact SH.KdV.str _ | exact SH.KdV.non
  | (apply SH.KdV.tup; (· walk_at "sq")) | (apply SH.KdV.lst; (· walk_at "sq")))
/-- a way that cannot be -/
local macro_rules | `(tactic| walk_at "no") => `(tactic| (exfalso; first | assumption | omega | contradiction | (simp_all; done)))
/-- one step -/
local macro_rules | `(tactic| walk_at "g1") => `(tactic| with_reducible first
  | refine SH.g_var (by with_unfolding_all rfl) ?_ | refine SH.g_c ?_ | refine SH.g_op ?_ | refine SH.g_un ?_ | refine SH.g_I0 ?_ | refine SH.g_U ?_
  | refine SH.g_eqI ?_ | refine SH.g_neI ?_ | refine SH.g_eqS ?_ | refine SH.g_neS ?_
  | refine SH.g_test ?_ | refine SH.g_B ?_ | refine SH.g_isB ?_ | refine SH.g_and ?_ | refine SH.g_or ?_ | refine SH.g_not ?_ | refine SH.g_andV ?_ | refine SH.g_orV ?_ | refine SH.g_notV ?_ | refine SH.g_ifE ?_ | refine SH.g_chain ?_
  | refine SH.g_nil ?_ | refine SH.g_cons ?_ | refine SH.g_tup ?_ | refine SH.g_lst ?_ | refine SH.g_call ?_ | refine SH.g_fld ?_ | refine SH.g_meth ?_ | refine SH.g_make ?_ | refine SH.g_cb ?_ | refine SH.g_bm ?_
  | refine SH.g_seq ?_ | refine SH.g_asg ?_ | refine SH.g_name ?_ | refine SH.g_drop ?_ | refine SH.g_ret ?_ | refine SH.g_retN ?_ | refine SH.g_next ?_ | refine SH.g_brk ?_ | refine SH.g_cnt ?_ | refine SH.g_ifs ?_ | refine SH.g_par ?_ | refine SH.g_par2 ?_ | refine SH.g_fldS ?_ | refine SH.g_raise ?_ | refine SH.g_rs ?_
  | refine SH.g_sub ?_ | refine SH.g_yes ?_ | refine SH.g_sl ?_ | refine SH.g_noPart ?_ | refine SH.g_part ?_ | refine SH.g_intO ?_ | refine SH.g_dget ?_ | refine SH.g_dput ?_ | refine SH.g_forR ?_ | refine SH.g_forL ?_ | refine SH.g_forT ?_ | refine SH.g_lcR ?_ | refine SH.g_lcL ?_ | refine SH.g_lcT ?_ | refine SH.g_gcons ?_ | refine SH.g_gnil ?_
  | refine SH.br_t ?_ | refine SH.br_f ?_
  | refine SH.g_int ?_ | refine SH.g_abs ?_ | refine SH.g_max2 ?_ | refine SH.g_min2 ?_)
local macro_rules | `(tactic| walk_at "g2") => `(tactic| first
  | walk_at "g1"
  | ((with_reducible refine' SH.g_isiInt ?ga ?gz); (case ga => walk_at "kd"))
  | ((with_reducible refine' SH.g_isiBool ?ga ?gz); (case ga => walk_at "kd"))
  | ((with_reducible refine' SH.g_isiStr ?ga ?gz); (case ga => walk_at "kd"))
  | ((with_reducible refine' SH.g_isiTup ?ga ?gz); (case ga => walk_at "kd"))
  | ((with_reducible refine' SH.g_ixT ?ga ?gb ?gz); (case ga => walk_at "sq"); (case gb => rfl))
  | ((with_reducible refine' SH.g_ixL ?ga ?gb ?gz); (case ga => walk_at "sq"); (case gb => first | rfl | (apply SH.atI_refs; assumption)))
  | ((with_reducible refine SH.br_F ?_ ?_); (· decide +kernel)) | ((with_reducible refine SH.br_T ?_ ?_); (· decide +kernel)) | ((with_reducible refine SH.br_NF ?_ ?_); (· decide +kernel)) | ((with_reducible refine SH.br_NT ?_ ?_); (· decide +kernel))
  | ((with_reducible refine' SH.g_gtup ?ga ?gb ?gz); (case ga => walk_at "sq"); (case gb => rfl))
  | ((with_reducible refine' SH.g_lenT ?ga ?gz); (case ga => walk_at "sq"))
  | ((with_reducible refine' SH.g_lenL ?ga ?gz); (case ga => walk_at "sq"))
  | ((with_reducible refine SH.g_mkT (SH.sz rfl) ?_); intro _ _)
  | ((with_reducible refine SH.g_mkL (SH.sz rfl) ?_); intro _ _)
  | ((with_reducible refine SH.g_dnew ?_); intro _ _)
  | ((with_reducible refine' SH.g_tupL ?ga ?gz); (case ga => walk_at "sq"); intro _ _)
  | ((with_reducible refine' SH.g_lstL ?ga ?gz); (case ga => walk_at "sq"); intro _ _)
  | ((with_reducible refine' SH.g_lstT ?ga ?gz); (case ga => walk_at "sq"); intro _ _)
  | ((with_reducible refine' SH.g_dgR ?ga ?gb ?gz); (case ga => walk_at "hp"); (case gb => walk_at "dv"))
  | ((with_reducible refine' SH.g_fldR ?ga ?gb ?gc ?gd ?gz); (case ga => walk_at "hp"); (case gb => walk_at "cl"); (case gc => walk_at "na"); (case gd => walk_at "fv"))
  | ((with_reducible refine' SH.g_insR ?ga ?gb ?gz); (case ga => walk_at "hp"); (case gb => walk_at "fn"))
  | ((with_reducible refine' SH.g_setL ?ga ?gb ?gz); (case ga => walk_at "hp"); (case gb => rfl))
  | ((with_reducible refine SH.g_I ?_ ?_); (· walk_at "ci"))
  | ((with_reducible refine' SH.g_slL ?ga ?gz); (case ga => walk_at "sq"); intro _ _)
  | ((with_reducible refine' SH.g_cat ?ga ?gb ?gc ?gz); (case ga => walk_at "hp"); (case gb => walk_at "hp"); (case gc => walk_at "ls"); intro _ _))
/-- the side conditions of numbers: a divisor, a factor -/
local macro_rules | `(tactic| walk_at "ci") => `(tactic| first
  | (show _ ≠ _; omega) | (show _ < _; omega) | (constructor <;> omega) | (refine Or.inr ⟨?_, ?_⟩ <;> (show _ < _; omega)) | (refine Or.inl ⟨?_, ?_⟩ <;> (show _ < _; omega)) | (refine ⟨?_, ?_, ?_⟩ <;> decide))
local macro_rules | `(tactic| walk_at "ls") => `(tactic| first | (show _ ≤ _; exact Nat.le_trans (by assumption) (by decide)) | (show _ ≤ _; exact Nat.le_trans (by simp; omega) (by decide : 1000 ≤ sizeLine)))
local macro_rules | `(tactic| walk_at "dv") => `(tactic| rfl)
local macro_rules | `(tactic| walk_at "fv") => `(tactic| rfl)
local macro_rules | `(tactic| walk_at "fn") => `(tactic| rfl)
local macro_rules | `(tactic| walk_at "cl") => `(tactic| assumption)
local macro_rules | `(tactic| walk_at "na") => `(tactic| assumption)
local macro_rules | `(tactic| walk_at "go") => `(tactic| repeat walk_at "g2")
/-- a way is split -/
local macro_rules | `(tactic| walk_at "br") => `(tactic| with_reducible first
  | refine SH.br_d (fun _ => ?_) (fun _ => ?_) | refine SH.br_nd (fun _ => ?_) (fun _ => ?_) | refine SH.br_b (fun _ => ?_) (fun _ => ?_))
/-- all ways -/
local macro_rules | `(tactic| walk_at "all") => `(tactic| repeat' first | walk_at "g2" | (walk_at "br" <;> try (walk_at "no")))
/-- a truth value is the other -/
local macro_rules | `(tactic| walk_at "bq") => `(tactic| first | rfl | (simp_all; done) | (simp_all; omega) | (simp only [decide_eq_true_eq, decide_eq_false_iff_not, Bool.and_eq_true, Bool.or_eq_true] at *; omega))
/-- what was tracked is as it was -/
local macro_rules | `(tactic| walk_at "of") => `(tactic| first
  | assumption
  | exact SH.Off.refl _ _
  | (refine' SH.Off.new2 ?gx (by assumption); (case gx => walk_at "of"))
  | (refine' SH.Off.mut ?gx (by assumption); (case gx => walk_at "of"))
  | (refine' SH.Off.trans' ?gx (by assumption) ?gy; (case gy => (intro _ h; (first | exact h | (simp at h; done) | (simp at h ⊢; simp [h]; done)))); (case gx => walk_at "of")))
namespace SH
open PySem PySem.Spec PyProof.Rows L2
/-! ### the law's own season in the heap -/
def Bt.s_right (t : Bt) (n : Int) : Bt := { t with right := n }
def Bt.s_heard (t : Bt) (n : Int) : Bt := { t with heard := n }
def Bt.s_landed (t : Bt) (n : Int) : Bt := { t with landed := n }
def Bt.s_told (t : Bt) (n : Int) : Bt := { t with told := n }
def Bt.s_present (t : Bt) (n : Int) : Bt := { t with present := n }
def boatK (t : Bt) (u h : Addr) : List (Key × V) :=
  [(Sum.inr "right", .int t.right), (Sum.inr "heard", .int t.heard), (Sum.inr "landed", .int t.landed), (Sum.inr "told", .int t.told), (Sum.inr "untold", .ref u), (Sum.inr "unheard", .ref h), (Sum.inr "present", .int t.present)]
def ownK (ow : Addr) (now : Int) (bl : Addr) (br : Bool) (be : Addr) : List (Key × V) :=
  [(Sum.inr "own", .ref ow), (Sum.inr "now", .int now), (Sum.inr "boats", .ref bl), (Sum.inr "broken", .bl br), (Sum.inr "beyond", .ref be)]
section
variable {t : Bt} {u h a : Addr} {n : Int} {ow bl be : Addr} {now : Int} {br : Bool} {b : Bool}
theorem bk_right : valV (boatK t u h) (Sum.inr "right") = some (.int t.right) := by kernel_rfl
theorem bk_heard : valV (boatK t u h) (Sum.inr "heard") = some (.int t.heard) := by kernel_rfl
theorem bk_landed : valV (boatK t u h) (Sum.inr "landed") = some (.int t.landed) := by kernel_rfl
theorem bk_told : valV (boatK t u h) (Sum.inr "told") = some (.int t.told) := by kernel_rfl
theorem bk_untold : valV (boatK t u h) (Sum.inr "untold") = some (.ref u) := by kernel_rfl
theorem bk_unheard : valV (boatK t u h) (Sum.inr "unheard") = some (.ref h) := by kernel_rfl
theorem bk_present : valV (boatK t u h) (Sum.inr "present") = some (.int t.present) := by kernel_rfl
theorem ok_own : valV (ownK ow now bl br be) (Sum.inr "own") = some (.ref ow) := by kernel_rfl
theorem ok_now : valV (ownK ow now bl br be) (Sum.inr "now") = some (.int now) := by kernel_rfl
theorem ok_boats : valV (ownK ow now bl br be) (Sum.inr "boats") = some (.ref bl) := by kernel_rfl
theorem ok_broken : valV (ownK ow now bl br be) (Sum.inr "broken") = some (.bl br) := by kernel_rfl
theorem ok_beyond : valV (ownK ow now bl br be) (Sum.inr "beyond") = some (.ref be) := by kernel_rfl
theorem bp_right : putK (boatK t u h) (Sum.inr "right") (.int n) = boatK (t.s_right n) u h := by kernel_rfl
theorem bp_heard : putK (boatK t u h) (Sum.inr "heard") (.int n) = boatK (t.s_heard n) u h := by kernel_rfl
theorem bp_landed : putK (boatK t u h) (Sum.inr "landed") (.int n) = boatK (t.s_landed n) u h := by kernel_rfl
theorem bp_told : putK (boatK t u h) (Sum.inr "told") (.int n) = boatK (t.s_told n) u h := by kernel_rfl
theorem bp_untold : putK (boatK t u h) (Sum.inr "untold") (.ref a) = boatK t a h := by kernel_rfl
theorem bp_unheard : putK (boatK t u h) (Sum.inr "unheard") (.ref a) = boatK t u a := by kernel_rfl
theorem bp_present : putK (boatK t u h) (Sum.inr "present") (.int n) = boatK (t.s_present n) u h := by kernel_rfl
theorem op_now : putK (ownK ow now bl br be) (Sum.inr "now") (.int n) = ownK ow n bl br be := by kernel_rfl
theorem op_broken : putK (ownK ow now bl br be) (Sum.inr "broken") (.bl b) = ownK ow now bl b be := by kernel_rfl
theorem op_beyond : putK (ownK ow now bl br be) (Sum.inr "beyond") (.ref a) = ownK ow now bl br a := by kernel_rfl
end
/-- rows of pairs of ints -/
def RowR (H : Hp) (v : V) (r : Int × Int) : Prop := ∃ p, v = .ref p ∧ H p = some (.tup [.int r.1, .int r.2])
def RowsR (H : Hp) (vs : List V) (rs : List (Int × Int)) : Prop := Paired (RowR H) vs rs
def LRows (H : Hp) (u : Addr) (rs : List (Int × Int)) : Prop := ∃ vs, H u = some (.lst vs) ∧ RowsR H vs rs
theorem RowR.off {S : List Addr} {H H' : Hp} {v : V} {r : Int × Int} (h : RowR H v r) (o : Off S H H') : RowR H' v r := by
  obtain ⟨p, e, h⟩ := h
  exact ⟨p, e, o.tups _ _ h⟩
theorem RowsR.off {S : List Addr} {H H' : Hp} {vs : List V} {rs : List (Int × Int)} (h : RowsR H vs rs) (o : Off S H H') : RowsR H' vs rs := Paired.mapP h fun _ _ z => z.off o
theorem LRows.off {S : List Addr} {H H' : Hp} {u : Addr} {rs : List (Int × Int)} (h : LRows H u rs) (o : Off S H H') (n : u ∉ S) : LRows H' u rs := by
  obtain ⟨vs, h1, h2⟩ := h
  exact ⟨vs, o.at n h1, h2.off o⟩
theorem RowsR.append : ∀ {H : Hp} {vs ws : List V} {rs qs : List (Int × Int)}, RowsR H vs rs → RowsR H ws qs → RowsR H (vs ++ ws) (rs ++ qs)
  | _, _, _, _, _, .nil, h => h
  | _, _, _, _, _, .cons r t, h => .cons r (RowsR.append t h)
theorem RowsR.length {H : Hp} {vs : List V} {rs : List (Int × Int)} (h : RowsR H vs rs) : vs.length = rs.length := Paired.length h
theorem RowsR.drop1 : ∀ {H : Hp} {vs : List V} {rs : List (Int × Int)}, RowsR H vs rs → RowsR H (vs.drop 1) rs.tail
  | _, _, _, .nil => .nil
  | _, _, _, .cons _ t => t
theorem RowsR.get : ∀ {H : Hp} {vs : List V} {rs : List (Int × Int)} {i : Nat} {v : V}, RowsR H vs rs → vs[i]? = some v → ∃ r, rs[i]? = some r ∧ RowR H v r
  | _, _, _, _, _, .nil, e => by simp at e
  | _, _, _, 0, _, .cons r t, e => by simp at e; subst e; exact ⟨_, rfl, r⟩
  | _, _, _, i + 1, v, .cons _ t, e => by
    obtain ⟨r, h1, h2⟩ := RowsR.get (i := i) t (by simpa using e)
    exact ⟨r, by simpa using h1, h2⟩
/-- a boat's dict at b; its lists stand outside T -/
def OwnB (T : List Addr) (H : Hp) (b : Addr) (t : Bt) : Prop := ∃ u h, H b = some (.dK (boatK t u h)) ∧ LRows H u t.untold ∧ LRows H h t.unheard ∧ u ∉ T ∧ h ∉ T ∧ b ∉ T
def beyL (bl bm : Bool) : List Str := (if bl then [("late" : Str)] else []) ++ (if bm then [("most" : Str)] else [])
/-- the own season at d, its boats at bs; all that may change of it stands outside T -/
structure OwnAt (T : List Addr) (H : Hp) (d : Addr) (bs : List Addr) (s : Sea) : Prop where
  ex : ∃ ow p bl be, H d = some (.dK (ownK ow s.now bl s.broken be)) ∧ H ow = some (.lst [.ref p, .int s.most, .int s.late, .int s.reserve]) ∧ TupN H p (s.shares.map V.int) ∧
    H bl = some (.lst (bs.map V.ref)) ∧ H be = some (.lst ((beyL s.bl s.bm).map V.str)) ∧ ow ∉ T ∧ bl ∉ T ∧ be ∉ T
  boats : Paired (OwnB T H) bs s.boats
  nd : (d :: bs).Nodup
  dT : d ∉ T
  live : ∀ t ∈ T, ∃ o, H t = some o
theorem OwnB.off {T S : List Addr} {H H' : Hp} {b : Addr} {t : Bt} (x : OwnB T H b t) (o : Off S H H') (h : ∀ a ∈ S, a ∈ T) : OwnB T H' b t := by
  obtain ⟨u, k, h1, h2, h3, h4, h5, h6⟩ := x
  exact ⟨u, k, o.at (fun z => h6 (h _ z)) h1, h2.off o (fun z => h4 (h _ z)), h3.off o (fun z => h5 (h _ z)), h4, h5, h6⟩
theorem OwnAt.off {T S : List Addr} {H H' : Hp} {d : Addr} {bs : List Addr} {s : Sea} (x : OwnAt T H d bs s) (o : Off S H H') (h : ∀ a ∈ S, a ∈ T) : OwnAt T H' d bs s := by
  obtain ⟨⟨ow, p, bl, be, h1, h2, h3, h4, h5, h6, h7, h8⟩, hb, nd, dT, lv⟩ := x
  exact ⟨⟨ow, p, bl, be, o.at (fun z => dT (h _ z)) h1, o.at (fun z => h6 (h _ z)) h2, h3.off o, o.at (fun z => h7 (h _ z)) h4, o.at (fun z => h8 (h _ z)) h5, h6, h7, h8⟩,
    Paired.mapP hb fun _ _ z => z.off o h, nd, dT, fun t ht => by
      obtain ⟨o', e⟩ := lv t ht
      exact o.live t o' e⟩
theorem paired_get {α β : Type} {F : α → β → Prop} : ∀ {l : List α} {m : List β} {i : Nat} {x : β}, Paired F l m → m[i]? = some x → ∃ y, l[i]? = some y ∧ F y x
  | _, _, _, _, .nil, e => by simp at e
  | _, _, 0, _, .cons r t, e => by simp at e; subst e; exact ⟨_, rfl, r⟩
  | _, _, i + 1, v, .cons _ t, e => by
    obtain ⟨r, h1, h2⟩ := paired_get (i := i) t (by simpa using e)
    exact ⟨r, by simpa using h1, h2⟩
theorem paired_set {α β : Type} {F G : α → β → Prop} {y : α} {x' : β} : ∀ {l : List α} {m : List β} {i : Nat}, Paired F l m → l[i]? = some y → (∀ j a b, l[j]? = some a → j ≠ i → F a b → G a b) → G y x' → Paired G l (m.set i x')
  | _, _, _, .nil, e, _, _ => by simp at e
  | _, _, 0, .cons (l₁ := l) r t, e, k, g => by
    simp at e; subst e
    refine .cons g (paired_imp t fun j a b hj f => k (j + 1) a b (by simpa using hj) (by omega) f)
  | _, _, i + 1, .cons r t, e, k, g => .cons (k 0 _ _ rfl (by omega) r) (paired_set (i := i) t (by simpa using e) (fun j a b hj n f => k (j + 1) a b (by simpa using hj) (by omega) f) g)
where paired_imp {α β : Type} {F G : α → β → Prop} : ∀ {l : List α} {m : List β}, Paired F l m → (∀ j a b, l[j]? = some a → F a b → G a b) → Paired G l m
  | _, _, .nil, _ => .nil
  | _, _, .cons r t, k => .cons (k 0 _ _ rfl r) (paired_imp t fun j a b hj f => k (j + 1) a b (by simpa using hj) f)
/-- behind a change of one boat's dict -/
theorem OwnAt.setB {T : List Addr} {H H' : Hp} {d b : Addr} {bs : List Addr} {s : Sea} {i : Nat} {t' : Bt} {u h : Addr} (x : OwnAt T H d bs s) (hb : bs[i]? = some b) (o : Off [b] H H') (e : H' b = some (.dK (boatK t' u h)))
    (hu : LRows H' u t'.untold) (hh : LRows H' h t'.unheard) (nu : u ∉ T) (nh : h ∉ T) : OwnAt T H' d bs { s with boats := s.boats.set i t' } := by
  obtain ⟨⟨ow, p, bl, be, h1, h2, h3, h4, h5, h6, h7, h8⟩, hbs, nd, dT, lv⟩ := x
  have hbm : b ∈ bs := List.mem_of_getElem? hb
  have ndb : d ≠ b := fun z => (List.nodup_cons.mp nd).1 (z ▸ hbm)
  have hB : ∃ t0 u0 k0, H b = some (.dK (boatK t0 u0 k0)) := by
    obtain ⟨j, hj, rfl⟩ := List.mem_iff_getElem.mp hbm
    have hl := Paired.length hbs
    obtain ⟨y, hy, u0, k0, q, _⟩ := paired_get (i := j) (x := s.boats[j]'(by omega)) hbs (by simp)
    have : y = bs[j] := by
      rw [List.getElem?_eq_getElem hj] at hy
      exact (Option.some.inj hy).symm
    exact ⟨_, u0, k0, by rw [← this]; exact q⟩
  obtain ⟨t0, u0, k0, hb0⟩ := hB
  have nb : ∀ {a : Addr} {xs : List V}, H a = some (.lst xs) → a ∉ [b] := fun {a xs} q z => by
    rw [List.mem_singleton.mp z, hb0] at q
    cases q
  refine ⟨⟨ow, p, bl, be, o.at (by simpa using ndb) h1, o.at (nb h2) h2, h3.off o, o.at (nb h4) h4, o.at (nb h5) h5, h6, h7, h8⟩, ?_, nd, dT, fun t ht => ?_⟩
  · have hbT : b ∉ T := by
      obtain ⟨j, hj, rfl⟩ := List.mem_iff_getElem.mp hbm
      have hl := Paired.length hbs
      obtain ⟨y, hy, u0, k0, q, _, _, _, _, q6⟩ := paired_get (i := j) (x := s.boats[j]'(by omega)) hbs (by simp)
      have : y = bs[j] := by
        rw [List.getElem?_eq_getElem hj] at hy
        exact (Option.some.inj hy).symm
      rw [← this]; exact q6
    refine paired_set hbs hb (fun j a t hj nj q => ?_) ⟨u, h, e, hu, hh, nu, nh, hbT⟩
    obtain ⟨u1, k1, q1, q2, q3, q4, q5, q6⟩ := q
    have nab : a ≠ b := fun z => by
      have nd2 := (List.nodup_cons.mp nd).2
      rw [z] at hj
      obtain ⟨l1, e1⟩ := List.getElem?_eq_some_iff.mp hj
      obtain ⟨l2, e2⟩ := List.getElem?_eq_some_iff.mp hb
      exact nj ((List.getElem_inj nd2).mp (e1.trans e2.symm))
    have ru : u1 ∉ [b] := by obtain ⟨vs, z, _⟩ := q2; exact nb z
    have rk : k1 ∉ [b] := by obtain ⟨vs, z, _⟩ := q3; exact nb z
    exact ⟨u1, k1, o.at (by simpa using nab) q1, q2.off o ru, q3.off o rk, q4, q5, q6⟩
  · obtain ⟨o', e⟩ := lv t ht
    exact o.live t o' e
/-- behind a change of the season's own dict -/
theorem OwnAt.setD {T : List Addr} {H H' : Hp} {d : Addr} {bs : List Addr} {s : Sea} {now : Int} {br bl' bm' : Bool} (x : OwnAt T H d bs s) (o : Off [d] H H')
    (e : ∀ ow bl be, H d = some (.dK (ownK ow s.now bl s.broken be)) → (∃ be', H' d = some (.dK (ownK ow now bl br be')) ∧ H' be' = some (.lst ((beyL bl' bm').map V.str)) ∧ be' ∉ T)) :
    OwnAt T H' d bs { s with now := now, broken := br, bl := bl', bm := bm' } := by
  obtain ⟨⟨ow, p, bl, be, h1, h2, h3, h4, h5, h6, h7, h8⟩, hbs, nd, dT, lv⟩ := x
  have nb : ∀ {a : Addr} {xs : List V}, H a = some (.lst xs) → a ∉ [d] := fun {a xs} q z => by
    rw [List.mem_singleton.mp z, h1] at q
    cases q
  obtain ⟨be', e1, e2, e3⟩ := e ow bl be h1
  refine ⟨⟨ow, p, bl, be', e1, o.at (nb h2) h2, h3.off o, o.at (nb h4) h4, e2, h6, h7, e3⟩, ?_, nd, dT, fun t ht => ?_⟩
  · refine paired_set.paired_imp hbs fun j a t hj q => ?_
    obtain ⟨u1, k1, q1, q2, q3, q4, q5, q6⟩ := q
    have nad : a ∉ [d] := fun z => by
      rw [List.mem_singleton.mp z] at hj
      exact (List.nodup_cons.mp nd).1 (List.mem_of_getElem? hj)
    exact ⟨u1, k1, o.at nad q1, q2.off o (by obtain ⟨vs, z, _⟩ := q2; exact nb z), q3.off o (by obtain ⟨vs, z, _⟩ := q3; exact nb z), q4, q5, q6⟩
  · obtain ⟨o', e⟩ := lv t ht
    exact o.live t o' e
theorem modify_set {α : Type} {f : α → α} : ∀ {l : List α} {i : Nat} {t : α}, l[i]? = some t → l.modify i f = l.set i (f t)
  | [], _, _, e => by simp at e
  | x :: l, 0, t, e => by simp at e; subst e; rfl
  | x :: l, i + 1, t, e => by
    rw [List.modify_succ_cons, List.set_cons_succ, modify_set (by simpa using e)]
end SH
end

section
/-! #### the walk's words -/
local macro_rules | `(tactic| walk_at "ne0") => `(tactic| first
  | assumption
  | (refine Ne.symm ?_; assumption))
local macro_rules | `(tactic| walk_at "ne") => `(tactic| first
  | assumption
  | (refine Ne.symm ?_; assumption)
  | (refine' L2.ne_of_none ?gx (by assumption); (case gx => walk_at "hp"))
  | (refine' Ne.symm (L2.ne_of_none ?gx (by assumption)); (case gx => walk_at "hp")))
local macro_rules | `(tactic| walk_at "hp") => `(tactic| first
  | assumption
  | exact L2.upd_same
  | (refine' SH.upd_new ?gh (by assumption); (case gh => walk_at "hp"))
  | (refine' (L2.upd_ne ?gn).trans ?gh; (case gn => walk_at "ne0"); (case gh => walk_at "hp"))
  | (refine' SH.Off.at (by assumption) ?gn ?gh; (case gn => walk_at "nin"); (case gh => walk_at "hp")))
local macro_rules | `(tactic| walk_at "nin") => `(tactic| first
  | exact SH.nin_nil
  | (refine SH.nin_cons ?_ ?_; (· walk_at "ne0"); (· walk_at "nin")))
local macro_rules | `(tactic| walk_at "sq") => `(tactic| first
  | assumption
  | (apply L2.SqL.of; (· walk_at "hp"))
  | (apply L2.SqT.of; (· walk_at "hp"))
  | (refine' SH.seqT_new ?gx (by assumption); (case gx => walk_at "sq"))
  | (refine' SH.seqL_new ?gx (by assumption); (case gx => walk_at "sq"))
  | (refine' SH.Off.seqT (by assumption) ?gx; (case gx => walk_at "sq"))
  | (refine' SH.Off.seqL (by assumption) ?gy ?gx; (case gx => walk_at "sq"); (case gy => walk_at "nin")))
local macro_rules | `(tactic| walk_at "kd") => `(tactic| first
  | assumption | exact SH.KdV.int _ | exact SH.KdV.bl _ | exact SH.KdV.str _ | exact SH.KdV.non
  | (apply SH.KdV.tup; (· walk_at "sq")) | (apply SH.KdV.lst; (· walk_at "sq")))
/-- a way that cannot be -/
local macro_rules | `(tactic| walk_at "no") => `(tactic| (exfalso; first | assumption | omega | contradiction | (simp_all; done)))
/-- one step -/
local macro_rules | `(tactic| walk_at "g1") => `(tactic| with_reducible first
  | refine SH.g_var (by with_unfolding_all rfl) ?_ | refine SH.g_c ?_ | refine SH.g_op ?_ | refine SH.g_un ?_ | refine SH.g_I0 ?_ | refine SH.g_U ?_
  | refine SH.g_eqI ?_ | refine SH.g_neI ?_ | refine SH.g_eqS ?_ | refine SH.g_neS ?_
  | refine SH.g_test ?_ | refine SH.g_B ?_ | refine SH.g_isB ?_ | refine SH.g_and ?_ | refine SH.g_or ?_ | refine SH.g_not ?_ | refine SH.g_andV ?_ | refine SH.g_orV ?_ | refine SH.g_notV ?_ | refine SH.g_ifE ?_ | refine SH.g_chain ?_
  | refine SH.g_nil ?_ | refine SH.g_cons ?_ | refine SH.g_tup ?_ | refine SH.g_lst ?_ | refine SH.g_call ?_ | refine SH.g_fld ?_ | refine SH.g_meth ?_ | refine SH.g_make ?_ | refine SH.g_cb ?_ | refine SH.g_bm ?_
  | refine SH.g_seq ?_ | refine SH.g_asg ?_ | refine SH.g_name ?_ | refine SH.g_drop ?_ | refine SH.g_ret ?_ | refine SH.g_retN ?_ | refine SH.g_next ?_ | refine SH.g_brk ?_ | refine SH.g_cnt ?_ | refine SH.g_ifs ?_ | refine SH.g_par ?_ | refine SH.g_par2 ?_ | refine SH.g_fldS ?_ | refine SH.g_raise ?_ | refine SH.g_rs ?_
  | refine SH.g_sub ?_ | refine SH.g_yes ?_ | refine SH.g_sl ?_ | refine SH.g_noPart ?_ | refine SH.g_part ?_ | refine SH.g_intO ?_ | refine SH.g_dget ?_ | refine SH.g_dput ?_ | refine SH.g_forR ?_ | refine SH.g_forL ?_ | refine SH.g_forT ?_ | refine SH.g_lcR ?_ | refine SH.g_lcL ?_ | refine SH.g_lcT ?_ | refine SH.g_gcons ?_ | refine SH.g_gnil ?_
  | refine SH.br_t ?_ | refine SH.br_f ?_
  | refine SH.g_int ?_ | refine SH.g_abs ?_ | refine SH.g_max2 ?_ | refine SH.g_min2 ?_)
local macro_rules | `(tactic| walk_at "g2") => `(tactic| first
  | walk_at "g1"
  | ((with_reducible refine' SH.g_isiInt ?ga ?gz); (case ga => walk_at "kd"))
  | ((with_reducible refine' SH.g_isiBool ?ga ?gz); (case ga => walk_at "kd"))
  | ((with_reducible refine' SH.g_isiStr ?ga ?gz); (case ga => walk_at "kd"))
  | ((with_reducible refine' SH.g_isiTup ?ga ?gz); (case ga => walk_at "kd"))
  | ((with_reducible refine' SH.g_ixT ?ga ?gb ?gz); (case ga => walk_at "sq"); (case gb => rfl))
  | ((with_reducible refine' SH.g_ixL ?ga ?gb ?gz); (case ga => walk_at "sq"); (case gb => first | rfl | (apply SH.atI_refs; assumption)))
  | ((with_reducible refine SH.br_F ?_ ?_); (· decide +kernel)) | ((with_reducible refine SH.br_T ?_ ?_); (· decide +kernel)) | ((with_reducible refine SH.br_NF ?_ ?_); (· decide +kernel)) | ((with_reducible refine SH.br_NT ?_ ?_); (· decide +kernel))
  | ((with_reducible refine' SH.g_gtup ?ga ?gb ?gz); (case ga => walk_at "sq"); (case gb => rfl))
  | ((with_reducible refine' SH.g_lenT ?ga ?gz); (case ga => walk_at "sq"))
  | ((with_reducible refine' SH.g_lenL ?ga ?gz); (case ga => walk_at "sq"))
  | ((with_reducible refine SH.g_mkT (SH.sz rfl) ?_); intro _ _)
  | ((with_reducible refine SH.g_mkL (SH.sz rfl) ?_); intro _ _)
  | ((with_reducible refine SH.g_dnew ?_); intro _ _)
  | ((with_reducible refine' SH.g_tupL ?ga ?gz); (case ga => walk_at "sq"); intro _ _)
  | ((with_reducible refine' SH.g_lstL ?ga ?gz); (case ga => walk_at "sq"); intro _ _)
  | ((with_reducible refine' SH.g_lstT ?ga ?gz); (case ga => walk_at "sq"); intro _ _)
  | ((with_reducible refine' SH.g_dgR ?ga ?gb ?gz); (case ga => walk_at "hp"); (case gb => walk_at "dv"))
  | ((with_reducible refine' SH.g_fldR ?ga ?gb ?gc ?gd ?gz); (case ga => walk_at "hp"); (case gb => walk_at "cl"); (case gc => walk_at "na"); (case gd => walk_at "fv"))
  | ((with_reducible refine' SH.g_insR ?ga ?gb ?gz); (case ga => walk_at "hp"); (case gb => walk_at "fn"))
  | ((with_reducible refine' SH.g_setL ?ga ?gb ?gz); (case ga => walk_at "hp"); (case gb => rfl))
  | ((with_reducible refine SH.g_I ?_ ?_); (· walk_at "ci"))
  | ((with_reducible refine' SH.g_slL ?ga ?gz); (case ga => walk_at "sq"); intro _ _)
  | ((with_reducible refine' SH.g_cat ?ga ?gb ?gc ?gz); (case ga => walk_at "hp"); (case gb => walk_at "hp"); (case gc => walk_at "ls"); intro _ _))
/-- the side conditions of numbers: a divisor, a factor -/
local macro_rules | `(tactic| walk_at "ci") => `(tactic| first
  | (show _ ≠ _; omega) | (show _ < _; omega) | (constructor <;> omega) | (refine Or.inr ⟨?_, ?_⟩ <;> (show _ < _; omega)) | (refine Or.inl ⟨?_, ?_⟩ <;> (show _ < _; omega)) | (refine ⟨?_, ?_, ?_⟩ <;> decide))
local macro_rules | `(tactic| walk_at "ls") => `(tactic| first | (show _ ≤ _; exact Nat.le_trans (by assumption) (by decide)) | (show _ ≤ _; exact Nat.le_trans (by simp; omega) (by decide : 1000 ≤ sizeLine)))
local macro_rules | `(tactic| walk_at "dv") => `(tactic| rfl)
local macro_rules | `(tactic| walk_at "fv") => `(tactic| rfl)
local macro_rules | `(tactic| walk_at "fn") => `(tactic| rfl)
local macro_rules | `(tactic| walk_at "cl") => `(tactic| assumption)
local macro_rules | `(tactic| walk_at "na") => `(tactic| assumption)
local macro_rules | `(tactic| walk_at "go") => `(tactic| repeat walk_at "g2")
/-- a way is split -/
local macro_rules | `(tactic| walk_at "br") => `(tactic| with_reducible first
  | refine SH.br_d (fun _ => ?_) (fun _ => ?_) | refine SH.br_nd (fun _ => ?_) (fun _ => ?_) | refine SH.br_b (fun _ => ?_) (fun _ => ?_))
/-- all ways -/
local macro_rules | `(tactic| walk_at "all") => `(tactic| repeat' first | walk_at "g2" | (walk_at "br" <;> try (walk_at "no")))
/-- a truth value is the other -/
local macro_rules | `(tactic| walk_at "bq") => `(tactic| first | rfl | (simp_all; done) | (simp_all; omega) | (simp only [decide_eq_true_eq, decide_eq_false_iff_not, Bool.and_eq_true, Bool.or_eq_true] at *; omega))
/-- what was tracked is as it was -/
local macro_rules | `(tactic| walk_at "of") => `(tactic| first
  | assumption
  | exact SH.Off.refl _ _
  | (refine' SH.Off.new2 ?gx (by assumption); (case gx => walk_at "of"))
  | (refine' SH.Off.mut ?gx (by assumption); (case gx => walk_at "of"))
  | (refine' SH.Off.trans' ?gx (by assumption) ?gy; (case gy => (intro _ h; (first | exact h | (simp at h; done) | (simp at h ⊢; simp [h]; done)))); (case gx => walk_at "of")))
namespace SH
open PySem PySem.Spec PyProof.Rows L2
/-! ### data: pairs of ints, lists of them -/
def rowD (r : Int × Int) : PyData := .tuple [.int r.1, .int r.2]
theorem RowsR.dpAll {K : PySem.W.Frag} {H : Hp} : ∀ {vs : List V} {rs : List (Int × Int)}, RowsR H vs rs → DpAll K H vs (rs.map rowD)
  | _, _, .nil => .nil
  | _, _, .cons r t => by
    obtain ⟨p, e, h⟩ := r
    subst e
    exact .cons (.tup (SqT.of h) (.cons (.int _) (.cons (.int _) .nil))) (RowsR.dpAll t)
theorem LRows.dp {K : PySem.W.Frag} {H : Hp} {u : Addr} {rs : List (Int × Int)} (h : LRows H u rs) : Dp K H (.ref u) (.list (rs.map rowD)) := by
  obtain ⟨vs, h1, h2⟩ := h
  exact .lst (SqL.of h1) h2.dpAll
theorem rows_lay : ∀ rs : List (Int × Int), PyData.canLayAll0 (rs.map rowD) = true
  | [] => rfl
  | r :: rs => by
    show (PyData.canLay0 (rowD r) && PyData.canLayAll0 (rs.map rowD)) = true
    rw [rows_lay rs]
    rfl
theorem rows_depth : ∀ rs : List (Int × Int), PyData.depthAll (rs.map rowD) ≤ 1
  | [] => Nat.zero_le _
  | r :: rs => by
    show max (PyData.depth (rowD r)) (PyData.depthAll (rs.map rowD)) ≤ 1
    have h1 : PyData.depth (rowD r) = 1 := rfl
    have h2 := rows_depth rs
    omega
theorem rows_shaped (rs : List (Int × Int)) : SeqAt.shaped (.list (rs.map rowD)) = true := by
  unfold SeqAt.shaped
  rw [Bool.and_eq_true, decide_eq_true_eq]
  refine ⟨rows_lay rs, ?_⟩
  show PyData.depthAll (rs.map rowD) + 1 ≤ 64
  have := rows_depth rs
  omega
theorem eqv_empty : ∀ ds : List PyData, PyData.eqv (.list ds) (.list []) = ds.isEmpty
  | [] => rfl
  | _ :: _ => rfl
theorem ints_dpAll {K : PySem.W.Frag} {H : Hp} : ∀ ns : List Int, DpAll K H (ns.map V.int) (ns.map PyData.int)
  | [] => .nil
  | n :: ns => .cons (.int n) (ints_dpAll ns)
theorem ints_lay : ∀ ns : List Int, PyData.canLayAll0 (ns.map PyData.int) = true
  | [] => rfl
  | n :: ns => by
    show (PyData.canLay0 (.int n) && PyData.canLayAll0 (ns.map PyData.int)) = true
    rw [ints_lay ns]
    rfl
theorem ints_depth : ∀ ns : List Int, PyData.depthAll (ns.map PyData.int) = 0
  | [] => rfl
  | n :: ns => by
    show max (PyData.depth (.int n)) (PyData.depthAll (ns.map PyData.int)) = 0
    rw [ints_depth ns]
    rfl
theorem ints_shaped (ns : List Int) : SeqAt.shaped (.list (ns.map PyData.int)) = true := by
  unfold SeqAt.shaped
  rw [Bool.and_eq_true, decide_eq_true_eq]
  refine ⟨ints_lay ns, ?_⟩
  show PyData.depthAll (ns.map PyData.int) + 1 ≤ 64
  rw [ints_depth ns]
  omega
/-- rows != [] -/
theorem g_neRows {K : PySem.W.Frag} {H : Hp} {Q : VK} {u p : Addr} {rs : List (Int × Int)} (h : LRows H u rs) (hp : H p = some (.lst [])) (q : Q (.bl (!rs.isEmpty)) H) : rNeD K (.ref u) (.ref p) H Q :=
  g_neD h.dp (.lst (SqL.of hp) .nil) (rows_shaped rs) rfl (by rw [eqv_empty]; cases rs <;> exact q)
/-- ints != [] -/
theorem g_neInts {K : PySem.W.Frag} {H : Hp} {Q : VK} {u p : Addr} {ns : List Int} (h : H u = some (.lst (ns.map V.int))) (hp : H p = some (.lst [])) (q : Q (.bl (!ns.isEmpty)) H) : rNeD K (.ref u) (.ref p) H Q :=
  g_neD (.lst (SqL.of h) (ints_dpAll ns)) (.lst (SqL.of hp) .nil) (ints_shaped ns) rfl (by rw [eqv_empty]; cases ns <;> exact q)
theorem LRows.new {H : Hp} {u p : Addr} {rs : List (Int × Int)} {o : HO} (h : LRows H u rs) (hp : H p = none) : LRows (upd H p o) u rs := h.off (S := []) (.new hp) nin_nil
end SH
end

section
/-! #### the walk's words -/
local macro_rules | `(tactic| walk_at "ne0") => `(tactic| first
  | assumption
  | (refine Ne.symm ?_; assumption))
local macro_rules | `(tactic| walk_at "ne") => `(tactic| first
  | assumption
  | (refine Ne.symm ?_; assumption)
  | (refine' L2.ne_of_none ?gx (by assumption); (case gx => walk_at "hp"))
  | (refine' Ne.symm (L2.ne_of_none ?gx (by assumption)); (case gx => walk_at "hp")))
local macro_rules | `(tactic| walk_at "hp") => `(tactic| first
  | assumption
  | exact L2.upd_same
  | (refine' SH.upd_new ?gh (by assumption); (case gh => walk_at "hp"))
  | (refine' (L2.upd_ne ?gn).trans ?gh; (case gn => walk_at "ne0"); (case gh => walk_at "hp"))
  | (refine' SH.Off.at (by assumption) ?gn ?gh; (case gn => walk_at "nin"); (case gh => walk_at "hp")))
local macro_rules | `(tactic| walk_at "nin") => `(tactic| first
  | exact SH.nin_nil
  | (refine SH.nin_cons ?_ ?_; (· walk_at "ne0"); (· walk_at "nin")))
local macro_rules | `(tactic| walk_at "sq") => `(tactic| first
  | assumption
  | (apply L2.SqL.of; (· walk_at "hp"))
  | (apply L2.SqT.of; (· walk_at "hp"))
  | (refine' SH.seqT_new ?gx (by assumption); (case gx => walk_at "sq"))
  | (refine' SH.seqL_new ?gx (by assumption); (case gx => walk_at "sq"))
  | (refine' SH.Off.seqT (by assumption) ?gx; (case gx => walk_at "sq"))
  | (refine' SH.Off.seqL (by assumption) ?gy ?gx; (case gx => walk_at "sq"); (case gy => walk_at "nin")))
local macro_rules | `(tactic| walk_at "kd") => `(tactic| first
  | assumption | exact SH.KdV.int _ | exact SH.KdV.bl _ | exact SH.KdV.str _ | exact SH.KdV.non
  | (apply SH.KdV.tup; (· walk_at "sq")) | (apply SH.KdV.lst; (· walk_at "sq")))
/-- a way that cannot be -/
local macro_rules | `(tactic| walk_at "no") => `(tactic| (exfalso; first | assumption | omega | contradiction | (simp_all; done)))
/-- one step -/
local macro_rules | `(tactic| walk_at "g1") => `(tactic| with_reducible first
  | refine SH.g_var (by with_unfolding_all rfl) ?_ | refine SH.g_c ?_ | refine SH.g_op ?_ | refine SH.g_un ?_ | refine SH.g_I0 ?_ | refine SH.g_U ?_
  | refine SH.g_eqI ?_ | refine SH.g_neI ?_ | refine SH.g_eqS ?_ | refine SH.g_neS ?_
  | refine SH.g_test ?_ | refine SH.g_B ?_ | refine SH.g_isB ?_ | refine SH.g_and ?_ | refine SH.g_or ?_ | refine SH.g_not ?_ | refine SH.g_andV ?_ | refine SH.g_orV ?_ | refine SH.g_notV ?_ | refine SH.g_ifE ?_ | refine SH.g_chain ?_
  | refine SH.g_nil ?_ | refine SH.g_cons ?_ | refine SH.g_tup ?_ | refine SH.g_lst ?_ | refine SH.g_call ?_ | refine SH.g_fld ?_ | refine SH.g_meth ?_ | refine SH.g_make ?_ | refine SH.g_cb ?_ | refine SH.g_bm ?_
  | refine SH.g_seq ?_ | refine SH.g_asg ?_ | refine SH.g_name ?_ | refine SH.g_drop ?_ | refine SH.g_ret ?_ | refine SH.g_retN ?_ | refine SH.g_next ?_ | refine SH.g_brk ?_ | refine SH.g_cnt ?_ | refine SH.g_ifs ?_ | refine SH.g_par ?_ | refine SH.g_par2 ?_ | refine SH.g_fldS ?_ | refine SH.g_raise ?_ | refine SH.g_rs ?_
  | refine SH.g_sub ?_ | refine SH.g_yes ?_ | refine SH.g_sl ?_ | refine SH.g_noPart ?_ | refine SH.g_part ?_ | refine SH.g_intO ?_ | refine SH.g_dget ?_ | refine SH.g_dput ?_ | refine SH.g_forR ?_ | refine SH.g_forL ?_ | refine SH.g_forT ?_ | refine SH.g_lcR ?_ | refine SH.g_lcL ?_ | refine SH.g_lcT ?_ | refine SH.g_gcons ?_ | refine SH.g_gnil ?_
  | refine SH.br_t ?_ | refine SH.br_f ?_
  | refine SH.g_int ?_ | refine SH.g_abs ?_ | refine SH.g_max2 ?_ | refine SH.g_min2 ?_)
local macro_rules | `(tactic| walk_at "g2") => `(tactic| first
  | walk_at "g1"
  | ((with_reducible refine' SH.g_isiInt ?ga ?gz); (case ga => walk_at "kd"))
  | ((with_reducible refine' SH.g_isiBool ?ga ?gz); (case ga => walk_at "kd"))
  | ((with_reducible refine' SH.g_isiStr ?ga ?gz); (case ga => walk_at "kd"))
  | ((with_reducible refine' SH.g_isiTup ?ga ?gz); (case ga => walk_at "kd"))
  | ((with_reducible refine' SH.g_ixT ?ga ?gb ?gz); (case ga => walk_at "sq"); (case gb => rfl))
  | ((with_reducible refine' SH.g_ixL ?ga ?gb ?gz); (case ga => walk_at "sq"); (case gb => first | rfl | (apply SH.atI_refs; assumption)))
  | ((with_reducible refine SH.br_F ?_ ?_); (· decide +kernel)) | ((with_reducible refine SH.br_T ?_ ?_); (· decide +kernel)) | ((with_reducible refine SH.br_NF ?_ ?_); (· decide +kernel)) | ((with_reducible refine SH.br_NT ?_ ?_); (· decide +kernel))
  | ((with_reducible refine' SH.g_gtup ?ga ?gb ?gz); (case ga => walk_at "sq"); (case gb => rfl))
  | ((with_reducible refine' SH.g_lenT ?ga ?gz); (case ga => walk_at "sq"))
  | ((with_reducible refine' SH.g_lenL ?ga ?gz); (case ga => walk_at "sq"))
  | ((with_reducible refine SH.g_mkT (SH.sz rfl) ?_); intro _ _)
  | ((with_reducible refine SH.g_mkL (SH.sz rfl) ?_); intro _ _)
  | ((with_reducible refine SH.g_dnew ?_); intro _ _)
  | ((with_reducible refine' SH.g_tupL ?ga ?gz); (case ga => walk_at "sq"); intro _ _)
  | ((with_reducible refine' SH.g_lstL ?ga ?gz); (case ga => walk_at "sq"); intro _ _)
  | ((with_reducible refine' SH.g_lstT ?ga ?gz); (case ga => walk_at "sq"); intro _ _)
  | ((with_reducible refine' SH.g_dgR ?ga ?gb ?gz); (case ga => walk_at "hp"); (case gb => walk_at "dv"))
  | ((with_reducible refine' SH.g_fldR ?ga ?gb ?gc ?gd ?gz); (case ga => walk_at "hp"); (case gb => walk_at "cl"); (case gc => walk_at "na"); (case gd => walk_at "fv"))
  | ((with_reducible refine' SH.g_insR ?ga ?gb ?gz); (case ga => walk_at "hp"); (case gb => walk_at "fn"))
  | ((with_reducible refine' SH.g_setL ?ga ?gb ?gz); (case ga => walk_at "hp"); (case gb => rfl))
  | ((with_reducible refine SH.g_I ?_ ?_); (· walk_at "ci"))
  | ((with_reducible refine' SH.g_slL ?ga ?gz); (case ga => walk_at "sq"); intro _ _)
  | ((with_reducible refine' SH.g_cat ?ga ?gb ?gc ?gz); (case ga => walk_at "hp"); (case gb => walk_at "hp"); (case gc => walk_at "ls"); intro _ _))
/-- the side conditions of numbers: a divisor, a factor -/
local macro_rules | `(tactic| walk_at "ci") => `(tactic| first
  | (show _ ≠ _; omega) | (show _ < _; omega) | (constructor <;> omega) | (refine Or.inr ⟨?_, ?_⟩ <;> (show _ < _; omega)) | (refine Or.inl ⟨?_, ?_⟩ <;> (show _ < _; omega)) | (refine ⟨?_, ?_, ?_⟩ <;> decide))
local macro_rules | `(tactic| walk_at "ls") => `(tactic| first | (show _ ≤ _; exact Nat.le_trans (by assumption) (by decide)) | (show _ ≤ _; exact Nat.le_trans (by simp; omega) (by decide : 1000 ≤ sizeLine)))
local macro_rules | `(tactic| walk_at "dv") => `(tactic| rfl)
local macro_rules | `(tactic| walk_at "fv") => `(tactic| rfl)
local macro_rules | `(tactic| walk_at "fn") => `(tactic| rfl)
local macro_rules | `(tactic| walk_at "cl") => `(tactic| assumption)
local macro_rules | `(tactic| walk_at "na") => `(tactic| assumption)
local macro_rules | `(tactic| walk_at "go") => `(tactic| repeat walk_at "g2")
/-- a way is split -/
local macro_rules | `(tactic| walk_at "br") => `(tactic| with_reducible first
  | refine SH.br_d (fun _ => ?_) (fun _ => ?_) | refine SH.br_nd (fun _ => ?_) (fun _ => ?_) | refine SH.br_b (fun _ => ?_) (fun _ => ?_))
/-- all ways -/
local macro_rules | `(tactic| walk_at "all") => `(tactic| repeat' first | walk_at "g2" | (walk_at "br" <;> try (walk_at "no")))
/-- a truth value is the other -/
local macro_rules | `(tactic| walk_at "bq") => `(tactic| first | rfl | (simp_all; done) | (simp_all; omega) | (simp only [decide_eq_true_eq, decide_eq_false_iff_not, Bool.and_eq_true, Bool.or_eq_true] at *; omega))
/-- what was tracked is as it was -/
local macro_rules | `(tactic| walk_at "of") => `(tactic| first
  | assumption
  | exact SH.Off.refl _ _
  | (refine' SH.Off.new2 ?gx (by assumption); (case gx => walk_at "of"))
  | (refine' SH.Off.mut ?gx (by assumption); (case gx => walk_at "of"))
  | (refine' SH.Off.trans' ?gx (by assumption) ?gy; (case gy => (intro _ h; (first | exact h | (simp at h; done) | (simp at h ⊢; simp [h]; done)))); (case gx => walk_at "of")))
namespace SH
open PySem PySem.Spec PyProof.Rows L2
theorem szk {α : Type} {xs : List α} (h : Nat.ble xs.length 1000 = true) : xs.length < sizeLine := Nat.lt_of_le_of_lt (Nat.le_of_ble_eq_true h) (by decide)
theorem seqT_put {K : PySem.W.Frag} {H : Hp} {a b : Addr} {xs : List V} {o u : HO} (h : SqT K H a xs) (hb : H b = some u) (hu : Mut (some u)) : SqT K (upd H b o) a xs := (Off.put (S := [b]) (by simp) hb hu).seqT h
theorem g_dpA {M : Hp → Prop} {kvs kvs' : List (Key × V)} {k : Str} {a : Addr} {v : V} {H : Hp} (h : H a = some (.dK kvs)) (e : putK kvs (Sum.inr k) v = kvs') (hl : kvs.length < sizeLine) (q : ∀ H', H' a = some (.dK kvs') → Off [a] H H' → M H') : dpR v (.ref a) (.str k) H M :=
  g_dpR' h e hl (q _ upd_same (.put (by simp) h trivial))
theorem atI_cons0 {α : Type} {v : α} {vs : List α} : atI (v :: vs) 0 = some v := by
  unfold atI ixN
  rw [if_pos (by omega), if_pos (by rw [List.length_cons]; omega)]
  rfl
/-! ### what went beyond: two texts -/
theorem two_sorted {ys : List Str} (h : ys.Perm [("most" : Str), "late"]) (s : sortedS ys = true) : ys = [("late" : Str), "most"] := by
  match ys, h.length_eq, h, s with
  | [a, b], _, h, s =>
    have ha : a = ("most" : Str) ∨ a = ("late" : Str) := by simpa using h.mem_iff.mp (show a ∈ [a, b] by simp)
    have hb : b = ("most" : Str) ∨ b = ("late" : Str) := by simpa using h.mem_iff.mp (show b ∈ [a, b] by simp)
    have hm : ("most" : Str) = a ∨ ("most" : Str) = b := by simpa using h.mem_iff.mpr (show ("most" : Str) ∈ [("most" : Str), "late"] by simp)
    have hl : ("late" : Str) = a ∨ ("late" : Str) = b := by simpa using h.mem_iff.mpr (show ("late" : Str) ∈ [("most" : Str), "late"] by simp)
    have n : ("most" : Str) ≠ "late" := by decide +kernel
    rcases ha with ha | ha
    · rcases hl with hl | hl
      · exact absurd (hl.trans ha).symm n
      · rw [ha, ← hl] at s
        exact absurd s (by decide +kernel)
    · rcases hm with hm | hm
      · exact absurd (hm.trans ha) n
      · rw [ha, ← hm]
theorem bey_sortL {bm : Bool} {ys : List Str} (h : ys.Perm (beyL false bm ++ [("late" : Str)])) (s : sortedS ys = true) : ys = beyL true bm := by
  cases bm with
  | true => exact two_sorted h s
  | false => exact List.perm_singleton.mp h
theorem bey_sortM {bl : Bool} {ys : List Str} (h : ys.Perm (beyL bl false ++ [("most" : Str)])) (s : sortedS ys = true) : ys = beyL bl true := by
  cases bl with
  | true => exact two_sorted (h.trans (.swap _ _ [])) s
  | false => exact List.perm_singleton.mp h
theorem bey_flat (bl bm : Bool) : ((beyL bl bm).map V.str).all flatV = true := by cases bl <;> cases bm <;> rfl
theorem bey_inL (bl bm : Bool) : inV (.str "late") ((beyL bl bm).map V.str) = bl := by cases bl <;> cases bm <;> decide +kernel
theorem bey_inM (bl bm : Bool) : inV (.str "most") ((beyL bl bm).map V.str) = bm := by cases bl <;> cases bm <;> decide +kernel
theorem bey_len (bl bm : Bool) : (beyL bl bm).length ≤ 2 := by cases bl <;> cases bm <;> decide
section
variable {K : PySem.W.Frag} {H : Hp} {Q : VK} {a be : Addr} {bl bm : Bool}
theorem g_notL (h : H be = some (.lst ((beyL bl bm).map V.str))) (q : Q (.bl (!bl)) H) : rIn K true (.str "late") (.ref be) H Q := g_in (.inl (.of h)) rfl (bey_flat ..) (by rw [if_pos rfl, bey_inL]; exact q)
theorem g_notM (h : H be = some (.lst ((beyL bl bm).map V.str))) (q : Q (.bl (!bm)) H) : rIn K true (.str "most") (.ref be) H Q := g_in (.inl (.of h)) rfl (bey_flat ..) (by rw [if_pos rfl, bey_inM]; exact q)
theorem g_sortL (h : H a = some (.lst ((beyL bl bm).map V.str ++ [.str "late"]))) (hb : bl = false) (q : ∀ p, H p = none → Q (.ref p) (upd H p (.lst ((beyL true bm).map V.str)))) : rSortedS K [.ref a] H Q := by
  subst hb
  have e : (beyL false bm).map V.str ++ [V.str "late"] = (beyL false bm ++ [("late" : Str)]).map V.str := by rw [List.map_append]; rfl
  rw [e] at h
  refine ⟨a, _, rfl, .of h, by have := bey_len false bm; rw [List.length_append]; simp; omega, fun ys p hp hs hn => ?_⟩
  rw [bey_sortL hp hs]
  exact q p hn
theorem g_sortM (h : H a = some (.lst ((beyL bl bm).map V.str ++ [.str "most"]))) (hb : bm = false) (q : ∀ p, H p = none → Q (.ref p) (upd H p (.lst ((beyL bl true).map V.str)))) : rSortedS K [.ref a] H Q := by
  subst hb
  have e : (beyL bl false).map V.str ++ [.str "most"] = (beyL bl false ++ [("most" : Str)]).map V.str := by rw [List.map_append]; rfl
  rw [e] at h
  refine ⟨a, _, rfl, .of h, by have := bey_len bl false; rw [List.length_append]; simp; omega, fun ys p hp hs hn => ?_⟩
  rw [bey_sortM hp hs]
  exact q p hn
theorem g_catBey {l : Addr} {x : V} (h1 : H be = some (.lst ((beyL bl bm).map V.str))) (h2 : H l = some (.lst [x])) (q : ∀ p, H p = none → Q (.ref p) (upd H p (.lst ((beyL bl bm).map V.str ++ [x])))) : rCat (.ref be) (.ref l) H Q :=
  g_cat h1 h2 (by have := bey_len bl bm; rw [List.length_map, sizeLine_eq, List.length_singleton]; omega) q
end
end SH
end

section
/-! #### the walk's words -/
local macro_rules | `(tactic| walk_at "ne0") => `(tactic| first
  | assumption
  | (refine Ne.symm ?_; assumption))
local macro_rules | `(tactic| walk_at "ne") => `(tactic| first
  | assumption
  | (refine Ne.symm ?_; assumption)
  | (refine' L2.ne_of_none ?gx (by assumption); (case gx => walk_at "hp"))
  | (refine' Ne.symm (L2.ne_of_none ?gx (by assumption)); (case gx => walk_at "hp")))
local macro_rules | `(tactic| walk_at "hp") => `(tactic| first
  | assumption
  | exact L2.upd_same
  | (refine' SH.upd_new ?gh (by assumption); (case gh => walk_at "hp"))
  | (refine' (L2.upd_ne ?gn).trans ?gh; (case gn => walk_at "ne0"); (case gh => walk_at "hp"))
  | (refine' SH.Off.at (by assumption) ?gn ?gh; (case gn => walk_at "nin"); (case gh => walk_at "hp")))
local macro_rules | `(tactic| walk_at "nin") => `(tactic| first
  | exact SH.nin_nil
  | (refine SH.nin_cons ?_ ?_; (· walk_at "ne0"); (· walk_at "nin")))
local macro_rules | `(tactic| walk_at "sq") => `(tactic| first
  | assumption
  | (apply L2.SqL.of; (· walk_at "hp"))
  | (apply L2.SqT.of; (· walk_at "hp"))
  | (refine' SH.seqT_new ?gx (by assumption); (case gx => walk_at "sq"))
  | (refine' SH.seqL_new ?gx (by assumption); (case gx => walk_at "sq"))
  | (refine' SH.Off.seqT (by assumption) ?gx; (case gx => walk_at "sq"))
  | (refine' SH.Off.seqL (by assumption) ?gy ?gx; (case gx => walk_at "sq"); (case gy => walk_at "nin")))
local macro_rules | `(tactic| walk_at "kd") => `(tactic| first
  | assumption | exact SH.KdV.int _ | exact SH.KdV.bl _ | exact SH.KdV.str _ | exact SH.KdV.non
  | (apply SH.KdV.tup; (· walk_at "sq")) | (apply SH.KdV.lst; (· walk_at "sq")))
/-- a way that cannot be -/
local macro_rules | `(tactic| walk_at "no") => `(tactic| (exfalso; first | assumption | omega | contradiction | (simp_all; done)))
/-- one step -/
local macro_rules | `(tactic| walk_at "g1") => `(tactic| with_reducible first
  | refine SH.g_var (by with_unfolding_all rfl) ?_ | refine SH.g_c ?_ | refine SH.g_op ?_ | refine SH.g_un ?_ | refine SH.g_I0 ?_ | refine SH.g_U ?_
  | refine SH.g_eqI ?_ | refine SH.g_neI ?_ | refine SH.g_eqS ?_ | refine SH.g_neS ?_
  | refine SH.g_test ?_ | refine SH.g_B ?_ | refine SH.g_isB ?_ | refine SH.g_and ?_ | refine SH.g_or ?_ | refine SH.g_not ?_ | refine SH.g_andV ?_ | refine SH.g_orV ?_ | refine SH.g_notV ?_ | refine SH.g_ifE ?_ | refine SH.g_chain ?_
  | refine SH.g_nil ?_ | refine SH.g_cons ?_ | refine SH.g_tup ?_ | refine SH.g_lst ?_ | refine SH.g_call ?_ | refine SH.g_fld ?_ | refine SH.g_meth ?_ | refine SH.g_make ?_ | refine SH.g_cb ?_ | refine SH.g_bm ?_
  | refine SH.g_seq ?_ | refine SH.g_asg ?_ | refine SH.g_name ?_ | refine SH.g_drop ?_ | refine SH.g_ret ?_ | refine SH.g_retN ?_ | refine SH.g_next ?_ | refine SH.g_brk ?_ | refine SH.g_cnt ?_ | refine SH.g_ifs ?_ | refine SH.g_par ?_ | refine SH.g_par2 ?_ | refine SH.g_fldS ?_ | refine SH.g_raise ?_ | refine SH.g_rs ?_
  | refine SH.g_sub ?_ | refine SH.g_yes ?_ | refine SH.g_sl ?_ | refine SH.g_noPart ?_ | refine SH.g_part ?_ | refine SH.g_intO ?_ | refine SH.g_dget ?_ | refine SH.g_dput ?_ | refine SH.g_forR ?_ | refine SH.g_forL ?_ | refine SH.g_forT ?_ | refine SH.g_lcR ?_ | refine SH.g_lcL ?_ | refine SH.g_lcT ?_ | refine SH.g_gcons ?_ | refine SH.g_gnil ?_
  | refine SH.br_t ?_ | refine SH.br_f ?_
  | refine SH.g_int ?_ | refine SH.g_abs ?_ | refine SH.g_max2 ?_ | refine SH.g_min2 ?_)
local macro_rules | `(tactic| walk_at "g2") => `(tactic| first
  | walk_at "g1"
  | ((with_reducible refine' SH.g_isiInt ?ga ?gz); (case ga => walk_at "kd"))
  | ((with_reducible refine' SH.g_isiBool ?ga ?gz); (case ga => walk_at "kd"))
  | ((with_reducible refine' SH.g_isiStr ?ga ?gz); (case ga => walk_at "kd"))
  | ((with_reducible refine' SH.g_isiTup ?ga ?gz); (case ga => walk_at "kd"))
  | ((with_reducible refine' SH.g_ixT ?ga ?gb ?gz); (case ga => walk_at "sq"); (case gb => rfl))
  | ((with_reducible refine' SH.g_ixL ?ga ?gb ?gz); (case ga => walk_at "sq"); (case gb => first | rfl | (apply SH.atI_refs; assumption)))
  | ((with_reducible refine SH.br_F ?_ ?_); (· decide +kernel)) | ((with_reducible refine SH.br_T ?_ ?_); (· decide +kernel)) | ((with_reducible refine SH.br_NF ?_ ?_); (· decide +kernel)) | ((with_reducible refine SH.br_NT ?_ ?_); (· decide +kernel))
  | ((with_reducible refine' SH.g_gtup ?ga ?gb ?gz); (case ga => walk_at "sq"); (case gb => rfl))
  | ((with_reducible refine' SH.g_lenT ?ga ?gz); (case ga => walk_at "sq"))
  | ((with_reducible refine' SH.g_lenL ?ga ?gz); (case ga => walk_at "sq"))
  | ((with_reducible refine SH.g_mkT (SH.sz rfl) ?_); intro _ _)
  | ((with_reducible refine SH.g_mkL (SH.sz rfl) ?_); intro _ _)
  | ((with_reducible refine SH.g_dnew ?_); intro _ _)
  | ((with_reducible refine' SH.g_tupL ?ga ?gz); (case ga => walk_at "sq"); intro _ _)
  | ((with_reducible refine' SH.g_lstL ?ga ?gz); (case ga => walk_at "sq"); intro _ _)
  | ((with_reducible refine' SH.g_lstT ?ga ?gz); (case ga => walk_at "sq"); intro _ _)
  | ((with_reducible refine' SH.g_dgR ?ga ?gb ?gz); (case ga => walk_at "hp"); (case gb => walk_at "dv"))
  | ((with_reducible refine' SH.g_fldR ?ga ?gb ?gc ?gd ?gz); (case ga => walk_at "hp"); (case gb => walk_at "cl"); (case gc => walk_at "na"); (case gd => walk_at "fv"))
  | ((with_reducible refine' SH.g_insR ?ga ?gb ?gz); (case ga => walk_at "hp"); (case gb => walk_at "fn"))
  | ((with_reducible refine' SH.g_setL ?ga ?gb ?gz); (case ga => walk_at "hp"); (case gb => rfl))
  | ((with_reducible refine SH.g_I ?_ ?_); (· walk_at "ci"))
  | ((with_reducible refine' SH.g_slL ?ga ?gz); (case ga => walk_at "sq"); intro _ _)
  | ((with_reducible refine' SH.g_cat ?ga ?gb ?gc ?gz); (case ga => walk_at "hp"); (case gb => walk_at "hp"); (case gc => walk_at "ls"); intro _ _))
/-- the side conditions of numbers: a divisor, a factor -/
local macro_rules | `(tactic| walk_at "ci") => `(tactic| first
  | (show _ ≠ _; omega) | (show _ < _; omega) | (constructor <;> omega) | (refine Or.inr ⟨?_, ?_⟩ <;> (show _ < _; omega)) | (refine Or.inl ⟨?_, ?_⟩ <;> (show _ < _; omega)) | (refine ⟨?_, ?_, ?_⟩ <;> decide))
local macro_rules | `(tactic| walk_at "ls") => `(tactic| first | (show _ ≤ _; exact Nat.le_trans (by assumption) (by decide)) | (show _ ≤ _; exact Nat.le_trans (by simp; omega) (by decide : 1000 ≤ sizeLine)))
local macro_rules | `(tactic| walk_at "dv") => `(tactic| rfl)
local macro_rules | `(tactic| walk_at "fv") => `(tactic| rfl)
local macro_rules | `(tactic| walk_at "fn") => `(tactic| rfl)
local macro_rules | `(tactic| walk_at "cl") => `(tactic| assumption)
local macro_rules | `(tactic| walk_at "na") => `(tactic| assumption)
local macro_rules | `(tactic| walk_at "go") => `(tactic| repeat walk_at "g2")
/-- a way is split -/
local macro_rules | `(tactic| walk_at "br") => `(tactic| with_reducible first
  | refine SH.br_d (fun _ => ?_) (fun _ => ?_) | refine SH.br_nd (fun _ => ?_) (fun _ => ?_) | refine SH.br_b (fun _ => ?_) (fun _ => ?_))
/-- all ways -/
local macro_rules | `(tactic| walk_at "all") => `(tactic| repeat' first | walk_at "g2" | (walk_at "br" <;> try (walk_at "no")))
/-- a truth value is the other -/
local macro_rules | `(tactic| walk_at "bq") => `(tactic| first | rfl | (simp_all; done) | (simp_all; omega) | (simp only [decide_eq_true_eq, decide_eq_false_iff_not, Bool.and_eq_true, Bool.or_eq_true] at *; omega))
/-- what was tracked is as it was -/
local macro_rules | `(tactic| walk_at "of") => `(tactic| first
  | assumption
  | exact SH.Off.refl _ _
  | (refine' SH.Off.new2 ?gx (by assumption); (case gx => walk_at "of"))
  | (refine' SH.Off.mut ?gx (by assumption); (case gx => walk_at "of"))
  | (refine' SH.Off.trans' ?gx (by assumption) ?gy; (case gy => (intro _ h; (first | exact h | (simp at h; done) | (simp at h ⊢; simp [h]; done)))); (case gx => walk_at "of")))
/-- the own season's dicts -/
local macro_rules | `(tactic| walk_at "dv") => `(tactic| with_reducible first
  | exact SH.bk_right | exact SH.bk_heard | exact SH.bk_landed | exact SH.bk_told | exact SH.bk_untold | exact SH.bk_unheard | exact SH.bk_present
  | exact SH.ok_own | exact SH.ok_now | exact SH.ok_boats | exact SH.ok_broken | exact SH.ok_beyond)
local macro_rules | `(tactic| walk_at "dw") => `(tactic| with_reducible first
  | exact SH.bp_right | exact SH.bp_heard | exact SH.bp_landed | exact SH.bp_told | exact SH.bp_untold | exact SH.bp_unheard | exact SH.bp_present
  | exact SH.op_now | exact SH.op_broken | exact SH.op_beyond)
local macro_rules | `(tactic| walk_at "g2") => `(tactic|
  ((with_reducible refine' SH.g_dpA ?ga ?gb ?gc ?gz); (case ga => walk_at "hp"); (case gb => walk_at "dw"); (case gc => exact SH.szk rfl); intro _ _ _))
local macro_rules | `(tactic| walk_at "sq") => `(tactic|
  ((refine' SH.seqT_put ?gx ?gy ?gz); (case gy => walk_at "hp"); (case gz => exact trivial); (case gx => walk_at "sq")))
local macro_rules | `(tactic| walk_at "g2") => `(tactic|
  ((with_reducible refine' SH.g_ixL ?ga ?gb ?gz); (case ga => walk_at "sq"); (case gb => first | rfl | (apply SH.atI_refs; assumption) | exact SH.atI_cons0)))
namespace SH
open PySem PySem.Spec PyProof.Rows L2
def Stp.vs : Stp → List V
  | .land b n => [.str "land", .int b, .int n]
  | .tell b => [.str "tell", .int b]
  | .hear b => [.str "hear", .int b]
  | .trade f t n => [.str "trade", .int f, .int t, .int n]
  | .tick => [.str "tick"]
def StepAt (K : PySem.W.Frag) (H : Hp) (v : V) (st : Stp) : Prop := ∃ p, v = .ref p ∧ SqT K H p st.vs
theorem StepAt.off {K : PySem.W.Frag} {S : List Addr} {H H' : Hp} {v : V} {st : Stp} (h : StepAt K H v st) (o : Off S H H') : StepAt K H' v st := by
  obtain ⟨p, e, h⟩ := h
  exact ⟨p, e, o.seqT h⟩
def spCan (K : PySem.W.Frag) : Sp := fun vs H Q _ => ∃ d v T bs s st c, vs = [.ref d, v] ∧ OwnAt T H d bs s ∧ StepAt K H v st ∧ st.ok bs.length ∧ s.Good c ∧ c ≤ 100000 ∧ ∀ H', Off [] H H' → Q (.bl (s.can st)) H'
section
variable {P : Program} {w : World} {K : PySem.W.Frag} {mg : Str → Option Value} {base : Heap}
theorem boat_at {T : List Addr} {H : Hp} {bs : List Addr} {ts : List Bt} (h : Paired (OwnB T H) bs ts) {i : Nat} (hi : i < bs.length) :
    ∃ b t u k, bs[i]? = some b ∧ ts[i]? = some t ∧ H b = some (.dK (boatK t u k)) ∧ LRows H u t.untold ∧ LRows H k t.unheard ∧ u ∉ T ∧ k ∉ T ∧ b ∉ T := by
  have hl := Paired.length h
  obtain ⟨b, hb, u, k, q⟩ := paired_get (i := i) (x := ts[i]'(by omega)) h (by simp)
  exact ⟨b, _, u, k, hb, by simp, q⟩
theorem ok_law_n_can (T : Txt P w K mg) : DefOk P w K mg base "_law_n_can" 1 ["season", "step"] (spCan K) := by
  refine T.d_law_n_can.ok sc_law_n_can (fun _ _ _ _ _ _ us hl => match us, hl with | [_, _], _ => rfl) (fun vs H Q E h => ?_) (fun f cdv A outer s H vs Q E hr h => ?_)
  · obtain ⟨d, v, T, bs, s, st, c, rfl, _⟩ := h
    rfl
  · obtain ⟨d, v, T0, bs, s, st, c, rfl, ho, ⟨p, rfl, hst⟩, hok, hg, hc, q⟩ := h
    have B := T.blt
    have hu := hu_of hr
    refine ⟨_, (pss_cons (ps_if (pt_cmpR op_eq (pe_ix (ix_tupK (K := K) rfl) (pv 1) pe_int (fun _ _ => rfl)) pe_str (nomark _))
    (pss_one (ps_ret (pe_cmpR op_lt (pe_dget hu (pv 0) pe_str (fun _ _ => rfl)) pe_int (nomark _))))
    pss_nil)
  (pss_cons (ps_set (i := 2) sc_law_n_can.nd rfl (by first | exact Or.inl rfl | exact Or.inr rfl) (pe_ix (ix_listK (K := K) rfl) (pe_dget hu (pv 0) pe_str (fun _ _ => rfl)) (pe_ix (ix_tupK (K := K) rfl) (pv 1) pe_int (fun _ _ => rfl)) (fun _ _ => rfl)))
  (pss_cons (ps_if (pt_cmpR op_eq (pe_ix (ix_tupK (K := K) rfl) (pv 1) pe_int (fun _ _ => rfl)) pe_str (nomark _))
    (pss_one (ps_ret (pe_cmpR op_le (pe_op op_add (pe_dget hu (pv 2) pe_str (fun _ _ => rfl)) (pe_ix (ix_tupK (K := K) rfl) (pv 1) pe_int (fun _ _ => rfl))) (pe_dget hu (pv 2) pe_str (fun _ _ => rfl)) (nomark _))))
    pss_nil)
  (pss_cons (ps_if (pt_cmpR op_eq (pe_ix (ix_tupK (K := K) rfl) (pv 1) pe_int (fun _ _ => rfl)) pe_str (nomark _))
    (pss_one (ps_ret (pe_cmpR op_ge (pe_op op_sub (pe_op op_sub (pe_dget hu (pv 2) pe_str (fun _ _ => rfl)) (pe_dget hu (pv 2) pe_str (fun _ _ => rfl))) (pe_ix (ix_tupK (K := K) rfl) (pv 1) pe_int (fun _ _ => rfl))) (pe_ix (ix_listK (K := K) rfl) (pe_dget hu (pv 0) pe_str (fun _ _ => rfl)) pe_int (fun _ _ => rfl)) (nomark _))))
    pss_nil)
  (pss_one (ps_ret (pe_cmpR (op_neDK (K := K) rfl hr.units) (pe_dget hu (pv 2) (pe_ifExp (pt_cmpR op_eq (pe_ix (ix_tupK (K := K) rfl) (pv 1) pe_int (fun _ _ => rfl)) pe_str (nomark _)) pe_str pe_str) (fun _ _ => rfl)) (pe_lst pa_nil) (nomark _)))))))), ?_⟩
    obtain ⟨⟨ow, pp, bl, be, h1, h2, h3, h4, h5, h6, h7, h8⟩, hbs, nd, dT, lv⟩ := ho
    cases st with
    | tick =>
      have hst' : SqT K H p [.str "tick"] := hst
      walk_at "go"
      exact q H (.refl _ _)
    | land b n =>
      have hst' : SqT K H p [.str "land", .int b, .int n] := hst
      obtain ⟨ba, t, u, k, e1, e2, e3, e4, e5, _⟩ := boat_at hbs hok.1
      walk_at "go"
      exact qb (q H (.refl _ _)) (by simp [Sea.can, e2])
    | tell b =>
      have hst' : SqT K H p [.str "tell", .int b] := hst
      obtain ⟨ba, t, u, k, e1, e2, e3, e4, e5, _⟩ := boat_at hbs hok
      walk_at "go"
      rename_i p2 hp2
      exact g_neRows (e4.new hp2) upd_same (qb (q _ (.new hp2)) (by simp [Sea.can, e2]))
    | hear b =>
      have hst' : SqT K H p [.str "hear", .int b] := hst
      obtain ⟨ba, t, u, k, e1, e2, e3, e4, e5, _⟩ := boat_at hbs hok
      walk_at "go"
      rename_i p2 hp2
      exact g_neRows (e5.new hp2) upd_same (qb (q _ (.new hp2)) (by simp [Sea.can, e2]))
    | trade f2 t2 n =>
      have hst' : SqT K H p [.str "trade", .int f2, .int t2, .int n] := hst
      obtain ⟨ba, t, u, k, e1, e2, e3, e4, e5, _⟩ := boat_at hbs hok.1
      walk_at "go"
      exact qb (q H (.refl _ _)) (by simp [Sea.can, e2])
end
end SH
end

section
/-! #### the walk's words -/
local macro_rules | `(tactic| walk_at "ne0") => `(tactic| first
  | assumption
  | (refine Ne.symm ?_; assumption))
local macro_rules | `(tactic| walk_at "ne") => `(tactic| first
  | assumption
  | (refine Ne.symm ?_; assumption)
  | (refine' L2.ne_of_none ?gx (by assumption); (case gx => walk_at "hp"))
  | (refine' Ne.symm (L2.ne_of_none ?gx (by assumption)); (case gx => walk_at "hp")))
local macro_rules | `(tactic| walk_at "hp") => `(tactic| first
  | assumption
  | exact L2.upd_same
  | (refine' SH.upd_new ?gh (by assumption); (case gh => walk_at "hp"))
  | (refine' (L2.upd_ne ?gn).trans ?gh; (case gn => walk_at "ne0"); (case gh => walk_at "hp"))
  | (refine' SH.Off.at (by assumption) ?gn ?gh; (case gn => walk_at "nin"); (case gh => walk_at "hp")))
local macro_rules | `(tactic| walk_at "nin") => `(tactic| first
  | exact SH.nin_nil
  | (refine SH.nin_cons ?_ ?_; (· walk_at "ne0"); (· walk_at "nin")))
local macro_rules | `(tactic| walk_at "sq") => `(tactic| first
  | assumption
  | (apply L2.SqL.of; (· walk_at "hp"))
  | (apply L2.SqT.of; (· walk_at "hp"))
  | (refine' SH.seqT_new ?gx (by assumption); (case gx => walk_at "sq"))
  | (refine' SH.seqL_new ?gx (by assumption); (case gx => walk_at "sq"))
  | (refine' SH.Off.seqT (by assumption) ?gx; (case gx => walk_at "sq"))
  | (refine' SH.Off.seqL (by assumption) ?gy ?gx; (case gx => walk_at "sq"); (case gy => walk_at "nin")))
local macro_rules | `(tactic| walk_at "kd") => `(tactic| first
  | assumption | exact SH.KdV.int _ | exact SH.KdV.bl _ | exact SH.KdV.str _ | exact SH.KdV.non
  | (apply SH.KdV.tup; (· walk_at "sq")) | (apply SH.KdV.lst; (· walk_at "sq")))
/-- a way that cannot be -/
local macro_rules | `(tactic| walk_at "no") => `(tactic| (exfalso; first | assumption | omega | contradiction | (simp_all; done)))
/-- one step -/
local macro_rules | `(tactic| walk_at "g1") => `(tactic| with_reducible first
  | refine SH.g_var (by with_unfolding_all rfl) ?_ | refine SH.g_c ?_ | refine SH.g_op ?_ | refine SH.g_un ?_ | refine SH.g_I0 ?_ | refine SH.g_U ?_
  | refine SH.g_eqI ?_ | refine SH.g_neI ?_ | refine SH.g_eqS ?_ | refine SH.g_neS ?_
  | refine SH.g_test ?_ | refine SH.g_B ?_ | refine SH.g_isB ?_ | refine SH.g_and ?_ | refine SH.g_or ?_ | refine SH.g_not ?_ | refine SH.g_andV ?_ | refine SH.g_orV ?_ | refine SH.g_notV ?_ | refine SH.g_ifE ?_ | refine SH.g_chain ?_
  | refine SH.g_nil ?_ | refine SH.g_cons ?_ | refine SH.g_tup ?_ | refine SH.g_lst ?_ | refine SH.g_call ?_ | refine SH.g_fld ?_ | refine SH.g_meth ?_ | refine SH.g_make ?_ | refine SH.g_cb ?_ | refine SH.g_bm ?_
  | refine SH.g_seq ?_ | refine SH.g_asg ?_ | refine SH.g_name ?_ | refine SH.g_drop ?_ | refine SH.g_ret ?_ | refine SH.g_retN ?_ | refine SH.g_next ?_ | refine SH.g_brk ?_ | refine SH.g_cnt ?_ | refine SH.g_ifs ?_ | refine SH.g_par ?_ | refine SH.g_par2 ?_ | refine SH.g_fldS ?_ | refine SH.g_raise ?_ | refine SH.g_rs ?_
  | refine SH.g_sub ?_ | refine SH.g_yes ?_ | refine SH.g_sl ?_ | refine SH.g_noPart ?_ | refine SH.g_part ?_ | refine SH.g_intO ?_ | refine SH.g_dget ?_ | refine SH.g_dput ?_ | refine SH.g_forR ?_ | refine SH.g_forL ?_ | refine SH.g_forT ?_ | refine SH.g_lcR ?_ | refine SH.g_lcL ?_ | refine SH.g_lcT ?_ | refine SH.g_gcons ?_ | refine SH.g_gnil ?_
  | refine SH.br_t ?_ | refine SH.br_f ?_
  | refine SH.g_int ?_ | refine SH.g_abs ?_ | refine SH.g_max2 ?_ | refine SH.g_min2 ?_)
local macro_rules | `(tactic| walk_at "g2") => `(tactic| first
  | walk_at "g1"
  | ((with_reducible refine' SH.g_isiInt ?ga ?gz); (case ga => walk_at "kd"))
  | ((with_reducible refine' SH.g_isiBool ?ga ?gz); (case ga => walk_at "kd"))
  | ((with_reducible refine' SH.g_isiStr ?ga ?gz); (case ga => walk_at "kd"))
  | ((with_reducible refine' SH.g_isiTup ?ga ?gz); (case ga => walk_at "kd"))
  | ((with_reducible refine' SH.g_ixT ?ga ?gb ?gz); (case ga => walk_at "sq"); (case gb => rfl))
  | ((with_reducible refine' SH.g_ixL ?ga ?gb ?gz); (case ga => walk_at "sq"); (case gb => first | rfl | (apply SH.atI_refs; assumption)))
  | ((with_reducible refine SH.br_F ?_ ?_); (· decide +kernel)) | ((with_reducible refine SH.br_T ?_ ?_); (· decide +kernel)) | ((with_reducible refine SH.br_NF ?_ ?_); (· decide +kernel)) | ((with_reducible refine SH.br_NT ?_ ?_); (· decide +kernel))
  | ((with_reducible refine' SH.g_gtup ?ga ?gb ?gz); (case ga => walk_at "sq"); (case gb => rfl))
  | ((with_reducible refine' SH.g_lenT ?ga ?gz); (case ga => walk_at "sq"))
  | ((with_reducible refine' SH.g_lenL ?ga ?gz); (case ga => walk_at "sq"))
  | ((with_reducible refine SH.g_mkT (SH.sz rfl) ?_); intro _ _)
  | ((with_reducible refine SH.g_mkL (SH.sz rfl) ?_); intro _ _)
  | ((with_reducible refine SH.g_dnew ?_); intro _ _)
  | ((with_reducible refine' SH.g_tupL ?ga ?gz); (case ga => walk_at "sq"); intro _ _)
  | ((with_reducible refine' SH.g_lstL ?ga ?gz); (case ga => walk_at "sq"); intro _ _)
  | ((with_reducible refine' SH.g_lstT ?ga ?gz); (case ga => walk_at "sq"); intro _ _)
  | ((with_reducible refine' SH.g_dgR ?ga ?gb ?gz); (case ga => walk_at "hp"); (case gb => walk_at "dv"))
  | ((with_reducible refine' SH.g_fldR ?ga ?gb ?gc ?gd ?gz); (case ga => walk_at "hp"); (case gb => walk_at "cl"); (case gc => walk_at "na"); (case gd => walk_at "fv"))
  | ((with_reducible refine' SH.g_insR ?ga ?gb ?gz); (case ga => walk_at "hp"); (case gb => walk_at "fn"))
  | ((with_reducible refine' SH.g_setL ?ga ?gb ?gz); (case ga => walk_at "hp"); (case gb => rfl))
  | ((with_reducible refine SH.g_I ?_ ?_); (· walk_at "ci"))
  | ((with_reducible refine' SH.g_slL ?ga ?gz); (case ga => walk_at "sq"); intro _ _)
  | ((with_reducible refine' SH.g_cat ?ga ?gb ?gc ?gz); (case ga => walk_at "hp"); (case gb => walk_at "hp"); (case gc => walk_at "ls"); intro _ _))
/-- the side conditions of numbers: a divisor, a factor -/
local macro_rules | `(tactic| walk_at "ci") => `(tactic| first
  | (show _ ≠ _; omega) | (show _ < _; omega) | (constructor <;> omega) | (refine Or.inr ⟨?_, ?_⟩ <;> (show _ < _; omega)) | (refine Or.inl ⟨?_, ?_⟩ <;> (show _ < _; omega)) | (refine ⟨?_, ?_, ?_⟩ <;> decide))
local macro_rules | `(tactic| walk_at "ls") => `(tactic| first | (show _ ≤ _; exact Nat.le_trans (by assumption) (by decide)) | (show _ ≤ _; exact Nat.le_trans (by simp; omega) (by decide : 1000 ≤ sizeLine)))
local macro_rules | `(tactic| walk_at "dv") => `(tactic| rfl)
local macro_rules | `(tactic| walk_at "fv") => `(tactic| rfl)
local macro_rules | `(tactic| walk_at "fn") => `(tactic| rfl)
local macro_rules | `(tactic| walk_at "cl") => `(tactic| assumption)
local macro_rules | `(tactic| walk_at "na") => `(tactic| assumption)
local macro_rules | `(tactic| walk_at "go") => `(tactic| repeat walk_at "g2")
/-- a way is split -/
local macro_rules | `(tactic| walk_at "br") => `(tactic| with_reducible first
  | refine SH.br_d (fun _ => ?_) (fun _ => ?_) | refine SH.br_nd (fun _ => ?_) (fun _ => ?_) | refine SH.br_b (fun _ => ?_) (fun _ => ?_))
/-- all ways -/
local macro_rules | `(tactic| walk_at "all") => `(tactic| repeat' first | walk_at "g2" | (walk_at "br" <;> try (walk_at "no")))
/-- a truth value is the other -/
local macro_rules | `(tactic| walk_at "bq") => `(tactic| first | rfl | (simp_all; done) | (simp_all; omega) | (simp only [decide_eq_true_eq, decide_eq_false_iff_not, Bool.and_eq_true, Bool.or_eq_true] at *; omega))
/-- what was tracked is as it was -/
local macro_rules | `(tactic| walk_at "of") => `(tactic| first
  | assumption
  | exact SH.Off.refl _ _
  | (refine' SH.Off.new2 ?gx (by assumption); (case gx => walk_at "of"))
  | (refine' SH.Off.mut ?gx (by assumption); (case gx => walk_at "of"))
  | (refine' SH.Off.trans' ?gx (by assumption) ?gy; (case gy => (intro _ h; (first | exact h | (simp at h; done) | (simp at h ⊢; simp [h]; done)))); (case gx => walk_at "of")))
namespace SH
open PySem PySem.Spec PyProof.Rows L2
/-! ### the package's season in the heap -/
def boatF (t : Bt) (u h : Addr) : List (Str × V) := [("right", .int t.right), ("heard", .int t.heard), ("landed", .int t.landed), ("told", .int t.told), ("untold", .ref u), ("unheard", .ref h), ("present", .int t.present)]
def planF (sh : Addr) (most late reserve : Int) : List (Str × V) := [("shares", .ref sh), ("most", .int most), ("late", .int late), ("reserve", .int reserve)]
def seaF (p : Addr) (now : Int) (bl : Addr) (br : Bool) (be : Addr) : List (Str × V) := [("plan", .ref p), ("now", .int now), ("_boats", .ref bl), ("_is_broken", .bl br), ("_beyond", .ref be)]
section
variable {t : Bt} {u h a p sh bl be : Addr} {n now most late reserve : Int} {br b : Bool}
theorem bf_right : (boatF t u h).lookup ("right" : Str) = some (V.int t.right) := by kernel_rfl
theorem bf_heard : (boatF t u h).lookup ("heard" : Str) = some (V.int t.heard) := by kernel_rfl
theorem bf_landed : (boatF t u h).lookup ("landed" : Str) = some (V.int t.landed) := by kernel_rfl
theorem bf_told : (boatF t u h).lookup ("told" : Str) = some (V.int t.told) := by kernel_rfl
theorem bf_untold : (boatF t u h).lookup ("untold" : Str) = some (V.ref u) := by kernel_rfl
theorem bf_unheard : (boatF t u h).lookup ("unheard" : Str) = some (V.ref h) := by kernel_rfl
theorem bf_present : (boatF t u h).lookup ("present" : Str) = some (V.int t.present) := by kernel_rfl
theorem pf_shares : (planF sh most late reserve).lookup ("shares" : Str) = some (V.ref sh) := by kernel_rfl
theorem pf_most : (planF sh most late reserve).lookup ("most" : Str) = some (V.int most) := by kernel_rfl
theorem pf_late : (planF sh most late reserve).lookup ("late" : Str) = some (V.int late) := by kernel_rfl
theorem pf_reserve : (planF sh most late reserve).lookup ("reserve" : Str) = some (V.int reserve) := by kernel_rfl
theorem sf_plan : (seaF p now bl br be).lookup ("plan" : Str) = some (V.ref p) := by kernel_rfl
theorem sf_now : (seaF p now bl br be).lookup ("now" : Str) = some (V.int now) := by kernel_rfl
theorem sf_boats : (seaF p now bl br be).lookup ("_boats" : Str) = some (V.ref bl) := by kernel_rfl
theorem sf_broken : (seaF p now bl br be).lookup ("_is_broken" : Str) = some (V.bl br) := by kernel_rfl
theorem sf_beyond : (seaF p now bl br be).lookup ("_beyond" : Str) = some (V.ref be) := by kernel_rfl
theorem bq_right : putF "right" (.int n) (boatF t u h) = boatF (t.s_right n) u h := by kernel_rfl
theorem bq_heard : putF "heard" (.int n) (boatF t u h) = boatF (t.s_heard n) u h := by kernel_rfl
theorem bq_landed : putF "landed" (.int n) (boatF t u h) = boatF (t.s_landed n) u h := by kernel_rfl
theorem bq_told : putF "told" (.int n) (boatF t u h) = boatF (t.s_told n) u h := by kernel_rfl
theorem bq_present : putF "present" (.int n) (boatF t u h) = boatF (t.s_present n) u h := by kernel_rfl
theorem sq_now : putF "now" (.int n) (seaF p now bl br be) = seaF p n bl br be := by kernel_rfl
theorem sq_broken : putF "_is_broken" (.bl b) (seaF p now bl br be) = seaF p now bl b be := by kernel_rfl
end
structure Pk where
  q : Addr
  p : Addr
  sh : Addr
  bl : Addr
  be : Addr
  bs : List (Addr × Addr × Addr)
def tri (x : Addr × Addr × Addr) : List Addr := [x.1, x.2.1, x.2.2]
def Pk.foot (k : Pk) : List Addr := k.q :: k.p :: k.bl :: k.be :: k.bs.flatMap tri
theorem atI_bs {bs : List (Addr × Addr × Addr)} {b : Nat} {y : Addr × Addr × Addr} (hb : bs[b]? = some y) : atI (bs.map fun x => V.ref x.1) (b : Int) = some (.ref y.1) := by
  have := atI_refs (bs := bs.map (·.1)) (b := b) (a := y.1) (by simp [hb])
  rwa [List.map_map] at this
/-- what went beyond: the keys of a dict -/
def BeyK (kvs : List (Key × V)) (bl bm : Bool) : Prop := ∃ ks : List Str, kvs = ks.map (fun k => (Sum.inr k, V.bl true)) ∧ ks.Perm (beyL bl bm)
theorem two_perm {ys : List Str} (h : ys.Perm [("late" : Str), "most"]) : ys = [("late" : Str), "most"] ∨ ys = [("most" : Str), "late"] := by
  match ys, h.length_eq, h with
  | [a, b], _, h =>
    have ha : a = ("late" : Str) ∨ a = ("most" : Str) := by simpa using h.mem_iff.mp (show a ∈ [a, b] by simp)
    have hm : ("most" : Str) = a ∨ ("most" : Str) = b := by simpa using h.mem_iff.mpr (show ("most" : Str) ∈ [("late" : Str), "most"] by simp)
    have hl : ("late" : Str) = a ∨ ("late" : Str) = b := by simpa using h.mem_iff.mpr (show ("late" : Str) ∈ [("late" : Str), "most"] by simp)
    have n : ("most" : Str) ≠ "late" := by decide +kernel
    rcases ha with ha | ha
    · rcases hm with hm | hm
      · exact absurd (hm.trans ha) n
      · left; rw [ha, ← hm]
    · rcases hl with hl | hl
      · exact absurd (hl.trans ha).symm n
      · right; rw [ha, ← hl]
theorem BeyK.cases' {kvs : List (Key × V)} {bl bm : Bool} (h : BeyK kvs bl bm) :
    (bl = false ∧ bm = false ∧ kvs = []) ∨ (bl = true ∧ bm = false ∧ kvs = [(Sum.inr ("late" : Str), V.bl true)]) ∨ (bl = false ∧ bm = true ∧ kvs = [(Sum.inr ("most" : Str), V.bl true)]) ∨
      (bl = true ∧ bm = true ∧ (kvs = [(Sum.inr ("late" : Str), V.bl true), (Sum.inr ("most" : Str), V.bl true)] ∨ kvs = [(Sum.inr ("most" : Str), V.bl true), (Sum.inr ("late" : Str), V.bl true)])) := by
  obtain ⟨ks, rfl, hp⟩ := h
  cases bl <;> cases bm
  · have := List.perm_nil.mp (show ks.Perm [] from hp)
    subst this
    exact .inl ⟨rfl, rfl, rfl⟩
  · have := List.perm_singleton.mp (show ks.Perm [_] from hp)
    subst this
    exact .inr (.inr (.inl ⟨rfl, rfl, rfl⟩))
  · have := List.perm_singleton.mp (show ks.Perm [_] from hp)
    subst this
    exact .inr (.inl ⟨rfl, rfl, rfl⟩)
  · rcases two_perm hp with rfl | rfl
    · exact .inr (.inr (.inr ⟨rfl, rfl, .inl rfl⟩))
    · exact .inr (.inr (.inr ⟨rfl, rfl, .inr rfl⟩))
theorem BeyK.putM {kvs : List (Key × V)} {bl bm : Bool} (h : BeyK kvs bl bm) : BeyK (putK kvs (Sum.inr "most") (.bl true)) bl true := by
  rcases h.cases' with ⟨rfl, rfl, rfl⟩ | ⟨rfl, rfl, rfl⟩ | ⟨rfl, rfl, rfl⟩ | ⟨rfl, rfl, rfl | rfl⟩
  · exact ⟨[("most" : Str)], by kernel_rfl, .refl _⟩
  · exact ⟨[("late" : Str), "most"], by kernel_rfl, .refl _⟩
  · exact ⟨[("most" : Str)], by kernel_rfl, .refl _⟩
  · exact ⟨[("late" : Str), "most"], by kernel_rfl, .refl _⟩
  · exact ⟨[("most" : Str), "late"], by kernel_rfl, .swap _ _ []⟩
theorem BeyK.putL {kvs : List (Key × V)} {bl bm : Bool} (h : BeyK kvs bl bm) : BeyK (putK kvs (Sum.inr "late") (.bl true)) true bm := by
  rcases h.cases' with ⟨rfl, rfl, rfl⟩ | ⟨rfl, rfl, rfl⟩ | ⟨rfl, rfl, rfl⟩ | ⟨rfl, rfl, rfl | rfl⟩
  · exact ⟨[("late" : Str)], by kernel_rfl, .refl _⟩
  · exact ⟨[("late" : Str)], by kernel_rfl, .refl _⟩
  · exact ⟨[("most" : Str), "late"], by kernel_rfl, .swap _ _ []⟩
  · exact ⟨[("late" : Str), "most"], by kernel_rfl, .refl _⟩
  · exact ⟨[("most" : Str), "late"], by kernel_rfl, .swap _ _ []⟩
theorem BeyK.len {kvs : List (Key × V)} {bl bm : Bool} (h : BeyK kvs bl bm) : kvs.length ≤ 2 := by
  rcases h.cases' with ⟨rfl, rfl, rfl⟩ | ⟨rfl, rfl, rfl⟩ | ⟨rfl, rfl, rfl⟩ | ⟨rfl, rfl, rfl | rfl⟩ <;> decide
section
variable {K : PySem.W.Frag}
def PkB (K : PySem.W.Frag) (H : Hp) (x : Addr × Addr × Addr) (t : Bt) : Prop := (∃ dx, H x.1 = some (.ins (He.ga K "Boat") dx (boatF t x.2.1 x.2.2))) ∧ LRows H x.2.1 t.untold ∧ LRows H x.2.2 t.unheard
structure PkAt (K : PySem.W.Frag) (H : Hp) (k : Pk) (s : Sea) : Prop where
  hq : ∃ dx, H k.q = some (.ins (He.ga K "Season") dx (seaF k.p s.now k.bl s.broken k.be))
  hp : ∃ dx, H k.p = some (.ins (He.ga K "Plan") dx (planF k.sh s.most s.late s.reserve))
  hs : TupN H k.sh (s.shares.map V.int)
  hl : H k.bl = some (.lst (k.bs.map fun x => .ref x.1))
  hb : ∃ kvs, H k.be = some (.dK kvs) ∧ BeyK kvs s.bl s.bm
  boats : Paired (PkB K H) k.bs s.boats
  nd : k.foot.Nodup
theorem PkB.off {S : List Addr} {H H' : Hp} {x : Addr × Addr × Addr} {t : Bt} (h : PkB K H x t) (o : Off S H H') (n : ∀ a ∈ tri x, a ∉ S) : PkB K H' x t := by
  obtain ⟨⟨dx, h1⟩, h2, h3⟩ := h
  exact ⟨⟨dx, o.at (n _ (by simp [tri])) h1⟩, h2.off o (n _ (by simp [tri])), h3.off o (n _ (by simp [tri]))⟩
theorem PkAt.off {S : List Addr} {H H' : Hp} {k : Pk} {s : Sea} (x : PkAt K H k s) (o : Off S H H') (h : ∀ a ∈ S, a ∉ k.foot) : PkAt K H' k s := by
  have n : ∀ a ∈ k.foot, a ∉ S := fun a ha hs => h a hs ha
  obtain ⟨⟨d1, h1⟩, ⟨d2, h2⟩, h3, h4, ⟨kvs, h5, h6⟩, hb, nd⟩ := x
  refine ⟨⟨d1, o.at (n _ (by simp [Pk.foot])) h1⟩, ⟨d2, o.at (n _ (by simp [Pk.foot])) h2⟩, h3.off o, o.at (n _ (by simp [Pk.foot])) h4, ⟨kvs, o.at (n _ (by simp [Pk.foot])) h5, h6⟩, ?_, nd⟩
  refine paired_set.paired_imp hb fun j a t hj z => z.off o fun c hc => n c ?_
  have : c ∈ k.bs.flatMap tri := List.mem_flatMap.mpr ⟨a, List.mem_of_getElem? hj, hc⟩
  simp [Pk.foot, this]
theorem tri_dis {bs : List (Addr × Addr × Addr)} (h : (bs.flatMap tri).Nodup) {i j : Nat} {x y : Addr × Addr × Addr} (hi : bs[i]? = some x) (hj : bs[j]? = some y) (n : i ≠ j) : ∀ a ∈ tri x, a ∉ tri y := by
  have h2 := (List.pairwise_flatMap.mp h).2
  obtain ⟨li, ei⟩ := List.getElem?_eq_some_iff.mp hi
  obtain ⟨lj, ej⟩ := List.getElem?_eq_some_iff.mp hj
  intro a ha hb
  rcases Nat.lt_or_gt_of_ne n with q | q
  · exact (List.pairwise_iff_getElem.mp h2 i j li lj q) a (ei ▸ ha) a (ej ▸ hb) rfl
  · exact (List.pairwise_iff_getElem.mp h2 j i lj li q) a (ej ▸ hb) a (ei ▸ ha) rfl
theorem PkAt.nt {H : Hp} {k : Pk} {s : Sea} (x : PkAt K H k s) : (k.bs.flatMap tri).Nodup := by
  have h := x.nd
  unfold Pk.foot at h
  simp only [List.nodup_cons] at h
  exact h.2.2.2.2
/-- behind a change of one boat -/
theorem PkAt.setB {H H' : Hp} {k : Pk} {s : Sea} {i : Nat} {y : Addr × Addr × Addr} {t' : Bt} (x : PkAt K H k s) (hb : k.bs[i]? = some y) (o : Off (tri y) H H') (e : PkB K H' y t') : PkAt K H' k { s with boats := s.boats.set i t' } := by
  have nt := x.nt
  have hy : ∀ a ∈ tri y, a ∈ k.bs.flatMap tri := fun a ha => List.mem_flatMap.mpr ⟨y, List.mem_of_getElem? hb, ha⟩
  obtain ⟨⟨d1, h1⟩, ⟨d2, h2⟩, h3, h4, ⟨kvs, h5, h6⟩, hbs, nd⟩ := x
  have nd' := nd
  unfold Pk.foot at nd'
  simp only [List.nodup_cons, List.mem_cons, not_or] at nd'
  obtain ⟨⟨_, _, _, n1⟩, ⟨_, _, n2⟩, ⟨_, n3⟩, n4, _⟩ := nd'
  refine ⟨⟨d1, o.at (fun z => n1 (hy _ z)) h1⟩, ⟨d2, o.at (fun z => n2 (hy _ z)) h2⟩, h3.off o, o.at (fun z => n3 (hy _ z)) h4, ⟨kvs, o.at (fun z => n4 (hy _ z)) h5, h6⟩, ?_, nd⟩
  exact paired_set hbs hb (fun j a t hj nj q => q.off o (tri_dis nt hj hb nj)) e
/-- behind a change of the season's own numbers -/
theorem PkAt.setQ {H H' : Hp} {k : Pk} {s : Sea} {now : Int} {br bl bm : Bool} (x : PkAt K H k s) (o : Off [k.q, k.be] H H') (hq : ∃ dx, H' k.q = some (.ins (He.ga K "Season") dx (seaF k.p now k.bl br k.be)))
    (hb : ∃ kvs, H' k.be = some (.dK kvs) ∧ BeyK kvs bl bm) : PkAt K H' k { s with now := now, broken := br, bl := bl, bm := bm } := by
  have nt := x.nt
  obtain ⟨⟨d1, h1⟩, ⟨d2, h2⟩, h3, h4, ⟨kvs, h5, h6⟩, hbs, nd⟩ := x
  have nd' := nd
  unfold Pk.foot at nd'
  simp only [List.nodup_cons, List.mem_cons, not_or] at nd'
  obtain ⟨⟨p1, p2, p3, n1⟩, ⟨p4, p5, n2⟩, ⟨p6, n3⟩, n4, _⟩ := nd'
  refine ⟨hq, ⟨d2, o.at (by simp [Ne.symm p1, p5]) h2⟩, h3.off o, o.at (by simp [Ne.symm p2, p6]) h4, hb, ?_, nd⟩
  refine paired_set.paired_imp hbs fun j a t hj q => q.off o fun c hc z => ?_
  have hf : c ∈ k.bs.flatMap tri := List.mem_flatMap.mpr ⟨a, List.mem_of_getElem? hj, hc⟩
  simp only [List.mem_cons, List.not_mem_nil, or_false] at z
  rcases z with rfl | rfl
  · exact n1 hf
  · exact n4 hf
end
end SH
end

section
/-! #### the walk's words -/
local macro_rules | `(tactic| walk_at "ne0") => `(tactic| first
  | assumption
  | (refine Ne.symm ?_; assumption))
local macro_rules | `(tactic| walk_at "ne") => `(tactic| first
  | assumption
  | (refine Ne.symm ?_; assumption)
  | (refine' L2.ne_of_none ?gx (by assumption); (case gx => walk_at "hp"))
  | (refine' Ne.symm (L2.ne_of_none ?gx (by assumption)); (case gx => walk_at "hp")))
local macro_rules | `(tactic| walk_at "hp") => `(tactic| first
  | assumption
  | exact L2.upd_same
  | (refine' SH.upd_new ?gh (by assumption); (case gh => walk_at "hp"))
  | (refine' (L2.upd_ne ?gn).trans ?gh; (case gn => walk_at "ne0"); (case gh => walk_at "hp"))
  | (refine' SH.Off.at (by assumption) ?gn ?gh; (case gn => walk_at "nin"); (case gh => walk_at "hp")))
local macro_rules | `(tactic| walk_at "nin") => `(tactic| first
  | exact SH.nin_nil
  | (refine SH.nin_cons ?_ ?_; (· walk_at "ne0"); (· walk_at "nin")))
local macro_rules | `(tactic| walk_at "sq") => `(tactic| first
  | assumption
  | (apply L2.SqL.of; (· walk_at "hp"))
  | (apply L2.SqT.of; (· walk_at "hp"))
  | (refine' SH.seqT_new ?gx (by assumption); (case gx => walk_at "sq"))
  | (refine' SH.seqL_new ?gx (by assumption); (case gx => walk_at "sq"))
  | (refine' SH.Off.seqT (by assumption) ?gx; (case gx => walk_at "sq"))
  | (refine' SH.Off.seqL (by assumption) ?gy ?gx; (case gx => walk_at "sq"); (case gy => walk_at "nin")))
local macro_rules | `(tactic| walk_at "kd") => `(tactic| first
  | assumption | exact SH.KdV.int _ | exact SH.KdV.bl _ | exact SH.KdV.str _ | exact SH.KdV.non
  | (apply SH.KdV.tup; (· walk_at "sq")) | (apply SH.KdV.lst; (· walk_at "sq")))
/-- a way that cannot be -/
local macro_rules | `(tactic| walk_at "no") => `(tactic| (exfalso; first | assumption | omega | contradiction | (simp_all; done)))
/-- one step -/
local macro_rules | `(tactic| walk_at "g1") => `(tactic| with_reducible first
  | refine SH.g_var (by with_unfolding_all rfl) ?_ | refine SH.g_c ?_ | refine SH.g_op ?_ | refine SH.g_un ?_ | refine SH.g_I0 ?_ | refine SH.g_U ?_
  | refine SH.g_eqI ?_ | refine SH.g_neI ?_ | refine SH.g_eqS ?_ | refine SH.g_neS ?_
  | refine SH.g_test ?_ | refine SH.g_B ?_ | refine SH.g_isB ?_ | refine SH.g_and ?_ | refine SH.g_or ?_ | refine SH.g_not ?_ | refine SH.g_andV ?_ | refine SH.g_orV ?_ | refine SH.g_notV ?_ | refine SH.g_ifE ?_ | refine SH.g_chain ?_
  | refine SH.g_nil ?_ | refine SH.g_cons ?_ | refine SH.g_tup ?_ | refine SH.g_lst ?_ | refine SH.g_call ?_ | refine SH.g_fld ?_ | refine SH.g_meth ?_ | refine SH.g_make ?_ | refine SH.g_cb ?_ | refine SH.g_bm ?_
  | refine SH.g_seq ?_ | refine SH.g_asg ?_ | refine SH.g_name ?_ | refine SH.g_drop ?_ | refine SH.g_ret ?_ | refine SH.g_retN ?_ | refine SH.g_next ?_ | refine SH.g_brk ?_ | refine SH.g_cnt ?_ | refine SH.g_ifs ?_ | refine SH.g_par ?_ | refine SH.g_par2 ?_ | refine SH.g_fldS ?_ | refine SH.g_raise ?_ | refine SH.g_rs ?_
  | refine SH.g_sub ?_ | refine SH.g_yes ?_ | refine SH.g_sl ?_ | refine SH.g_noPart ?_ | refine SH.g_part ?_ | refine SH.g_intO ?_ | refine SH.g_dget ?_ | refine SH.g_dput ?_ | refine SH.g_forR ?_ | refine SH.g_forL ?_ | refine SH.g_forT ?_ | refine SH.g_lcR ?_ | refine SH.g_lcL ?_ | refine SH.g_lcT ?_ | refine SH.g_gcons ?_ | refine SH.g_gnil ?_
  | refine SH.br_t ?_ | refine SH.br_f ?_
  | refine SH.g_int ?_ | refine SH.g_abs ?_ | refine SH.g_max2 ?_ | refine SH.g_min2 ?_)
local macro_rules | `(tactic| walk_at "g2") => `(tactic| first
  | walk_at "g1"
  | ((with_reducible refine' SH.g_isiInt ?ga ?gz); (case ga => walk_at "kd"))
  | ((with_reducible refine' SH.g_isiBool ?ga ?gz); (case ga => walk_at "kd"))
  | ((with_reducible refine' SH.g_isiStr ?ga ?gz); (case ga => walk_at "kd"))
  | ((with_reducible refine' SH.g_isiTup ?ga ?gz); (case ga => walk_at "kd"))
  | ((with_reducible refine' SH.g_ixT ?ga ?gb ?gz); (case ga => walk_at "sq"); (case gb => rfl))
  | ((with_reducible refine' SH.g_ixL ?ga ?gb ?gz); (case ga => walk_at "sq"); (case gb => first | rfl | (apply SH.atI_refs; assumption)))
  | ((with_reducible refine SH.br_F ?_ ?_); (· decide +kernel)) | ((with_reducible refine SH.br_T ?_ ?_); (· decide +kernel)) | ((with_reducible refine SH.br_NF ?_ ?_); (· decide +kernel)) | ((with_reducible refine SH.br_NT ?_ ?_); (· decide +kernel))
  | ((with_reducible refine' SH.g_gtup ?ga ?gb ?gz); (case ga => walk_at "sq"); (case gb => rfl))
  | ((with_reducible refine' SH.g_lenT ?ga ?gz); (case ga => walk_at "sq"))
  | ((with_reducible refine' SH.g_lenL ?ga ?gz); (case ga => walk_at "sq"))
  | ((with_reducible refine SH.g_mkT (SH.sz rfl) ?_); intro _ _)
  | ((with_reducible refine SH.g_mkL (SH.sz rfl) ?_); intro _ _)
  | ((with_reducible refine SH.g_dnew ?_); intro _ _)
  | ((with_reducible refine' SH.g_tupL ?ga ?gz); (case ga => walk_at "sq"); intro _ _)
  | ((with_reducible refine' SH.g_lstL ?ga ?gz); (case ga => walk_at "sq"); intro _ _)
  | ((with_reducible refine' SH.g_lstT ?ga ?gz); (case ga => walk_at "sq"); intro _ _)
  | ((with_reducible refine' SH.g_dgR ?ga ?gb ?gz); (case ga => walk_at "hp"); (case gb => walk_at "dv"))
  | ((with_reducible refine' SH.g_fldR ?ga ?gb ?gc ?gd ?gz); (case ga => walk_at "hp"); (case gb => walk_at "cl"); (case gc => walk_at "na"); (case gd => walk_at "fv"))
  | ((with_reducible refine' SH.g_insR ?ga ?gb ?gz); (case ga => walk_at "hp"); (case gb => walk_at "fn"))
  | ((with_reducible refine' SH.g_setL ?ga ?gb ?gz); (case ga => walk_at "hp"); (case gb => rfl))
  | ((with_reducible refine SH.g_I ?_ ?_); (· walk_at "ci"))
  | ((with_reducible refine' SH.g_slL ?ga ?gz); (case ga => walk_at "sq"); intro _ _)
  | ((with_reducible refine' SH.g_cat ?ga ?gb ?gc ?gz); (case ga => walk_at "hp"); (case gb => walk_at "hp"); (case gc => walk_at "ls"); intro _ _))
/-- the side conditions of numbers: a divisor, a factor -/
local macro_rules | `(tactic| walk_at "ci") => `(tactic| first
  | (show _ ≠ _; omega) | (show _ < _; omega) | (constructor <;> omega) | (refine Or.inr ⟨?_, ?_⟩ <;> (show _ < _; omega)) | (refine Or.inl ⟨?_, ?_⟩ <;> (show _ < _; omega)) | (refine ⟨?_, ?_, ?_⟩ <;> decide))
local macro_rules | `(tactic| walk_at "ls") => `(tactic| first | (show _ ≤ _; exact Nat.le_trans (by assumption) (by decide)) | (show _ ≤ _; exact Nat.le_trans (by simp; omega) (by decide : 1000 ≤ sizeLine)))
local macro_rules | `(tactic| walk_at "dv") => `(tactic| rfl)
local macro_rules | `(tactic| walk_at "fv") => `(tactic| rfl)
local macro_rules | `(tactic| walk_at "fn") => `(tactic| rfl)
local macro_rules | `(tactic| walk_at "cl") => `(tactic| assumption)
local macro_rules | `(tactic| walk_at "na") => `(tactic| assumption)
local macro_rules | `(tactic| walk_at "go") => `(tactic| repeat walk_at "g2")
/-- a way is split -/
local macro_rules | `(tactic| walk_at "br") => `(tactic| with_reducible first
  | refine SH.br_d (fun _ => ?_) (fun _ => ?_) | refine SH.br_nd (fun _ => ?_) (fun _ => ?_) | refine SH.br_b (fun _ => ?_) (fun _ => ?_))
/-- all ways -/
local macro_rules | `(tactic| walk_at "all") => `(tactic| repeat' first | walk_at "g2" | (walk_at "br" <;> try (walk_at "no")))
/-- a truth value is the other -/
local macro_rules | `(tactic| walk_at "bq") => `(tactic| first | rfl | (simp_all; done) | (simp_all; omega) | (simp only [decide_eq_true_eq, decide_eq_false_iff_not, Bool.and_eq_true, Bool.or_eq_true] at *; omega))
/-- what was tracked is as it was -/
local macro_rules | `(tactic| walk_at "of") => `(tactic| first
  | assumption
  | exact SH.Off.refl _ _
  | (refine' SH.Off.new2 ?gx (by assumption); (case gx => walk_at "of"))
  | (refine' SH.Off.mut ?gx (by assumption); (case gx => walk_at "of"))
  | (refine' SH.Off.trans' ?gx (by assumption) ?gy; (case gy => (intro _ h; (first | exact h | (simp at h; done) | (simp at h ⊢; simp [h]; done)))); (case gx => walk_at "of")))
/-- the own season's dicts -/
local macro_rules | `(tactic| walk_at "dv") => `(tactic| with_reducible first
  | exact SH.bk_right | exact SH.bk_heard | exact SH.bk_landed | exact SH.bk_told | exact SH.bk_untold | exact SH.bk_unheard | exact SH.bk_present
  | exact SH.ok_own | exact SH.ok_now | exact SH.ok_boats | exact SH.ok_broken | exact SH.ok_beyond)
local macro_rules | `(tactic| walk_at "dw") => `(tactic| with_reducible first
  | exact SH.bp_right | exact SH.bp_heard | exact SH.bp_landed | exact SH.bp_told | exact SH.bp_untold | exact SH.bp_unheard | exact SH.bp_present
  | exact SH.op_now | exact SH.op_broken | exact SH.op_beyond)
local macro_rules | `(tactic| walk_at "g2") => `(tactic|
  ((with_reducible refine' SH.g_dpA ?ga ?gb ?gc ?gz); (case ga => walk_at "hp"); (case gb => walk_at "dw"); (case gc => exact SH.szk rfl); intro _ _ _))
local macro_rules | `(tactic| walk_at "sq") => `(tactic|
  ((refine' SH.seqT_put ?gx ?gy ?gz); (case gy => walk_at "hp"); (case gz => exact trivial); (case gx => walk_at "sq")))
local macro_rules | `(tactic| walk_at "g2") => `(tactic|
  ((with_reducible refine' SH.g_ixL ?ga ?gb ?gz); (case ga => walk_at "sq"); (case gb => first | rfl | (apply SH.atI_refs; assumption) | exact SH.atI_cons0)))
/-- the package's season: its instances -/
local macro_rules | `(tactic| walk_at "fv") => `(tactic| with_reducible first
  | exact SH.bf_right | exact SH.bf_heard | exact SH.bf_landed | exact SH.bf_told | exact SH.bf_untold | exact SH.bf_unheard | exact SH.bf_present
  | exact SH.pf_shares | exact SH.pf_most | exact SH.pf_late | exact SH.pf_reserve
  | exact SH.sf_plan | exact SH.sf_now | exact SH.sf_boats | exact SH.sf_broken | exact SH.sf_beyond)
local macro_rules | `(tactic| walk_at "fp") => `(tactic| with_reducible first
  | exact SH.bq_right | exact SH.bq_heard | exact SH.bq_landed | exact SH.bq_told | exact SH.bq_present | exact SH.sq_now | exact SH.sq_broken)
local macro_rules | `(tactic| walk_at "fn") => `(tactic| kernel_rfl)
local macro_rules | `(tactic| walk_at "lt") => `(tactic| (rw [PySem.sizeLine_eq]; omega))
local macro_rules | `(tactic| walk_at "g2") => `(tactic| first
  | (with_reducible first | refine SH.br_ntt ?_ | refine SH.br_ntf ?_ | refine SH.br_k ?_ | refine SH.br_nk ?_ | refine SH.g_fldAug ?_ | refine SH.g_rAdd ?_ | refine SH.g_rSub ?_)
  | ((with_reducible refine SH.br_inF ?_ ?_); (· decide +kernel)) | ((with_reducible refine SH.br_inT ?_ ?_); (· decide +kernel))
  | ((with_reducible refine' SH.g_inT ?ga ?gb ?gc ?gz); (case ga => walk_at "sq"); (case gb => exact rfl); (case gc => kernel_rfl))
  | ((with_reducible refine' SH.g_stA ?ga ?gb ?gc ?gd ?ge ?gz); (case ga => walk_at "hp"); (case gb => walk_at "cl"); (case gc => walk_at "na"); (case gd => walk_at "fp"); (case ge => exact SH.szf rfl); intro _ _ _)
  | ((with_reducible refine' SH.g_augR ?ga ?gb ?gc ?gd ?gz); (case ga => walk_at "hp"); (case gb => walk_at "cl"); (case gc => walk_at "na"); (case gd => walk_at "fv"))
  | ((with_reducible refine' SH.g_putC ?ga ?gb ?gc ?gz); (case ga => walk_at "hp"); (case gb => walk_at "fp"); (case gc => exact SH.szf rfl); intro _ _ _)
  | ((with_reducible refine' SH.g_app' ?ga ?gb ?gz); (case ga => walk_at "hp"); (case gb => walk_at "lt"); intro _ _ _)
  | ((with_reducible refine' SH.g_popF ?ga ?gz); (case ga => walk_at "hp"); intro _ _ _)
  | ((with_reducible refine' SH.g_bml ?ga ?gz); (case ga => walk_at "sq"))
  | ((with_reducible refine' SH.g_isiSelf ?ga ?gb ?gc ?gz); (case ga => walk_at "hp"); (case gb => walk_at "cl"); (case gc => walk_at "cl")))
local macro_rules | `(tactic| walk_at "g2") => `(tactic|
  ((with_reducible refine' SH.g_ixL ?ga ?gb ?gz); (case ga => walk_at "sq"); (case gb => first | rfl | (apply SH.atI_refs; assumption) | exact SH.atI_cons0 | (apply SH.atI_bs; assumption))))
/-- instances in the making -/
local macro_rules | `(tactic| walk_at "g2") => `(tactic|
  (with_reducible refine' SH.g_stA ?ga ?gb ?gc ?gd ?ge ?gz; (case ga => walk_at "hp"); (case gb => walk_at "cl"); (case gc => walk_at "na"); (case gd => exact rfl); (case ge => exact SH.szf (by kernel_rfl)); intro _ _ _))
namespace SH
open PySem PySem.Spec PyProof.Rows L2
def spPlanI (K : PySem.W.Frag) : Sp := fun vs H Q _ => ∃ x dx sh ss most late reserve, vs = [.ref x, .ref sh, .int most, .int late, .int reserve] ∧ PlanOk ss most late reserve ∧ H x = some (.ins (He.ga K "Plan") dx []) ∧ TupN H sh (ss.map V.int) ∧
  ∀ H', H' x = some (.ins (He.ga K "Plan") dx (planF sh most late reserve)) → Off [x] H H' → Q .non H'
def spBoatI (K : PySem.W.Frag) : Sp := fun vs H Q _ => ∃ x dx share, vs = [.ref x, .int share] ∧ H x = some (.ins (He.ga K "Boat") dx []) ∧
  ∀ H' u h, H' x = some (.ins (He.ga K "Boat") dx (boatF (Bt.new share) u h)) → Off [x] H H' → H u = none → H h = none → u ≠ h → H' u = some (.lst []) → H' h = some (.lst []) → Q .non H'
section
variable {P : Program} {w : World} {K : PySem.W.Frag} {mg : Str → Option Value} {base : Heap}
theorem all_in {ss : List Int} (h : ∀ s ∈ ss, 0 ≤ s ∧ s ≤ 500) : (ss.map fun s => inB 0 500 (.int s)).all id = true := by
  rw [List.all_map, List.all_eq_true]
  intro s hs
  have := h s hs
  show (decide _ && decide _) = true
  simp [this]
theorem ok_Plan_init (T : Txt P w K mg) : MkOk P w K mg base "Plan" (He.ga K "Plan") 3 ["self", "shares", "most", "late", "reserve"] (spPlanI K) := by
  refine T.i_Plan.ok sc_Plan_init (fun _ _ _ _ _ _ us hl => match us, hl with | [_, _, _, _, _], _ => rfl) (fun vs H Q E h => ?_) (fun f cdv A outer s H vs Q E hr h => ?_)
  · obtain ⟨x, dx, sh, ss, most, late, reserve, rfl, _⟩ := h
    rfl
  · obtain ⟨x, dx, sh, ss, most, late, reserve, rfl, hg, hx, hs, q⟩ := h
    have B := T.blt
    have hu := hu_of hr
    have G_demand := ok_demand (base := base) T
    have G_is_in := ok_is_in (base := base) T
    have G_are_between := ok_are_between (base := base) T
    have c_MOST_LANDING := T.c_MOST_LANDING
    have c_MOST_LATE := T.c_MOST_LATE
    have c_MOST_SHARE := T.c_MOST_SHARE
    have c_MOST_BOATS := T.c_MOST_BOATS
    have cl_Plan := T.cl_Plan
    have is_Plan := T.is_Plan
    have na_Plan_shares := T.na_Plan_shares
    have na_Plan_most := T.na_Plan_most
    have na_Plan_late := T.na_Plan_late
    have na_Plan_reserve := T.na_Plan_reserve
    have cl_Boat := T.cl_Boat
    have is_Boat := T.is_Boat
    have cl_Season := T.cl_Season
    have is_Season := T.is_Season
    refine ⟨_, (pss_cons (ps_expr (pe_df G_demand (hr.mono (by decide)) (L2N.passes_call (L2N.takes_of rfl rfl rfl rfl) fun _ _ _ _ z => z) (pa_cons (pe_and (pe_df G_are_between (hr.mono (by decide)) (L2N.passes_call (L2N.takes_of rfl rfl rfl rfl) fun _ _ _ _ z => z) (pa_cons (pv 1) (pa_cons pe_int (pa_cons (pe_cint c_MOST_BOATS) pa_nil)))) (pe_one (pe_callB (cr_allK (K := K) rfl rfl) (by rfl) B.b_all (by decide +kernel) (pa_cons (pe_lc (own := [("share", 5)]) rfl sc_Plan_init.nd (pi_tupK (K := K) rfl (pv 1)) (blkOk_by (own := [("share", 5)]) (N := ["self", "shares", "most", "late", "reserve", "share"]) (sc := defScope s_Plan_init) (by decide +kernel)) (fun _ _ _ _ _ => (pg_name (i := 5) sc_Plan_init.nd rfl (by first | exact Or.inl rfl | exact Or.inr rfl))) (fun _ _ _ _ _ => pts_nil) (fun _ _ _ _ _ => (pe_df G_is_in (hr.mono (by decide)) passN (pa_cons (pv 5) (pa_cons pe_int (pa_cons (pe_cint c_MOST_SHARE) pa_nil)))))) pa_nil)))) (pa_cons pe_str pa_nil))))
  (pss_cons (ps_expr (pe_df G_demand (hr.mono (by decide)) (L2N.passes_call (L2N.takes_of rfl rfl rfl rfl) fun _ _ _ _ z => z) (pa_cons (pe_df G_is_in (hr.mono (by decide)) (L2N.passes_call (L2N.takes_of rfl rfl rfl rfl) fun _ _ _ _ z => z) (pa_cons (pv 2) (pa_cons pe_int (pa_cons (pe_cint c_MOST_LANDING) pa_nil)))) (pa_cons pe_str pa_nil))))
  (pss_cons (ps_expr (pe_df G_demand (hr.mono (by decide)) (L2N.passes_call (L2N.takes_of rfl rfl rfl rfl) fun _ _ _ _ z => z) (pa_cons (pe_df G_is_in (hr.mono (by decide)) (L2N.passes_call (L2N.takes_of rfl rfl rfl rfl) fun _ _ _ _ z => z) (pa_cons (pv 3) (pa_cons pe_int (pa_cons (pe_cint c_MOST_LATE) pa_nil)))) (pa_cons pe_str pa_nil))))
  (pss_cons (ps_expr (pe_df G_demand (hr.mono (by decide)) (L2N.passes_call (L2N.takes_of rfl rfl rfl rfl) fun _ _ _ _ z => z) (pa_cons (pe_df G_is_in (hr.mono (by decide)) (L2N.passes_call (L2N.takes_of rfl rfl rfl rfl) fun _ _ _ _ z => z) (pa_cons (pv 4) (pa_cons pe_int (pa_cons (pe_cint c_MOST_SHARE) pa_nil)))) (pa_cons pe_str pa_nil))))
  (pss_cons (ps_fldK (K := K) rfl (pv 0) (pv 1) rfl)
  (pss_cons (ps_fldK (K := K) rfl (pv 0) (pv 2) rfl)
  (pss_cons (ps_fldK (K := K) rfl (pv 0) (pv 3) rfl)
  (pss_one (ps_fldK (K := K) rfl (pv 0) (pv 4) rfl))))))))), ?_⟩
    walk_at "go"
    refine ⟨_, _, _, _, rfl, .inl ⟨_, _, rfl, hs.sq, rfl⟩, ?_⟩
    have n0 := hg.n0
    have n1 := hg.n1
    have e1 : (decide ((1 : Int) ≤ ((ss.map V.int).length : Int)) && decide (((ss.map V.int).length : Int) ≤ 5)) = true := by
      rw [List.length_map]
      simp
      omega
    rw [e1]
    walk_at "go"
    refine lcT_pure (fun x => .bl (inB 0 500 x)) (fun _ => true) hs.sq (by rw [List.length_map, sizeLine_eq]; omega) (fun _ => rfl) ?_ ?_ ?_
    · intro x H1 hx o1 M kk
      walk_at "go"
      exact kk _ (.refl _ _)
    · intro x H1 hx hc1 o1 M kk
      obtain ⟨s, hs, rfl⟩ := List.mem_map.mp hx
      walk_at "go"
      exact ⟨_, _, _, _, rfl, .int _, kk _ (.refl _ _)⟩
    · intro D H1 hD o1 e4
      have hx1 := o1.at nin_nil hx
      have ez : ((ss.map V.int).filter fun _ => true).map (fun x => V.bl (inB 0 500 x)) = (ss.map fun s => inB 0 500 (.int s)).map V.bl := by
        rw [List.filter_eq_self.mpr (fun _ _ => rfl), List.map_map, List.map_map]; rfl
      rw [ez] at e4
      walk_at "go"
      refine ⟨D, _, rfl, .of e4, ?_⟩
      rw [all_in hg.s0]
      walk_at "go"
      refine ⟨_, _, rfl, fun _ => ?_, fun z => by cases z⟩
      walk_at "go"
      refine ⟨_, _, _, _, rfl, .int _, ?_⟩
      have e2 : inB 1 20 (.int most) = true := by have := hg.m0; have := hg.m1; show (decide _ && decide _) = true; simp; omega
      have e3 : inB 0 6 (.int late) = true := by have := hg.l0; have := hg.l1; show (decide _ && decide _) = true; simp; omega
      have e4 : inB 0 500 (.int reserve) = true := by have := hg.r0; have := hg.r1; show (decide _ && decide _) = true; simp; omega
      rw [e2]
      walk_at "go"
      refine ⟨_, _, rfl, fun _ => ?_, fun z => by cases z⟩
      walk_at "go"
      refine ⟨_, _, _, _, rfl, .int _, ?_⟩
      rw [e3]
      walk_at "go"
      refine ⟨_, _, rfl, fun _ => ?_, fun z => by cases z⟩
      walk_at "go"
      refine ⟨_, _, _, _, rfl, .int _, ?_⟩
      rw [e4]
      walk_at "go"
      refine ⟨_, _, rfl, fun _ => ?_, fun z => by cases z⟩
      walk_at "go"
      rename_i H2 l2 m2 H3 l3 m3 H4 l4 m4 H5 l5 m5
      exact q H5 (l5.trans (by kernel_rfl)) ((((o1.mono (by simp)).trans m2).trans (m3.trans m4)).trans m5)
theorem ok_Boat_init (T : Txt P w K mg) : MkOk P w K mg base "Boat" (He.ga K "Boat") 1 ["self", "share"] (spBoatI K) := by
  refine T.i_Boat.ok sc_Boat_init (fun _ _ _ _ _ _ us hl => match us, hl with | [_, _], _ => rfl) (fun vs H Q E h => ?_) (fun f cdv A outer s H vs Q E hr h => ?_)
  · obtain ⟨x, dx, share, rfl, _⟩ := h
    rfl
  · obtain ⟨x, dx, share, rfl, hx, q⟩ := h
    have B := T.blt
    have hu := hu_of hr
    have cl_Plan := T.cl_Plan
    have is_Plan := T.is_Plan
    have cl_Boat := T.cl_Boat
    have is_Boat := T.is_Boat
    have na_Boat_right := T.na_Boat_right
    have na_Boat_heard := T.na_Boat_heard
    have na_Boat_landed := T.na_Boat_landed
    have na_Boat_told := T.na_Boat_told
    have na_Boat_untold := T.na_Boat_untold
    have na_Boat_unheard := T.na_Boat_unheard
    have na_Boat_present := T.na_Boat_present
    have cl_Season := T.cl_Season
    have is_Season := T.is_Season
    refine ⟨_, (pss_cons (ps_fldK (K := K) rfl (pv 0) (pv 1) rfl)
  (pss_cons (ps_fldK (K := K) rfl (pv 0) (pv 1) rfl)
  (pss_cons (ps_fldK (K := K) rfl (pv 0) pe_int rfl)
  (pss_cons (ps_fldK (K := K) rfl (pv 0) pe_int rfl)
  (pss_cons (ps_fldK (K := K) rfl (pv 0) (pe_lst pa_nil) rfl)
  (pss_cons (ps_fldK (K := K) rfl (pv 0) (pe_lst pa_nil) rfl)
  (pss_one (ps_fldK (K := K) rfl (pv 0) pe_int rfl)))))))), ?_⟩
    walk_at "go"
    rename_i H1 l1 m1 H2 l2 m2 H3 l3 m3 H4 l4 m4 p1 hp1 H5 l5 m5 p2 hp2 H6 l6 m6 H7 l7 m7
    have o4 : Off [x] H H4 := ((m1.trans m2).trans m3).trans m4
    have n1 : p1 ≠ x := fun z => by rw [z, l4] at hp1; cases hp1
    have n2 : p2 ≠ x := fun z => by rw [z, l5] at hp2; cases hp2
    have i1 : H5 p1 = some (.lst []) := m5.at (by simpa using n1) upd_same
    have n12 : p1 ≠ p2 := ne_of_none i1 hp2
    have i2 : H6 p1 = some (.lst []) := m6.at (by simpa using n1) (upd_new i1 hp2)
    have i3 : H6 p2 = some (.lst []) := m6.at (by simpa using n2) upd_same
    have o5 : Off [x] H H5 := (o4.new2 hp1).trans m5
    exact q H7 p1 p2 (l7.trans (by kernel_rfl)) (((o5.new2 hp2).trans m6).trans m7) (o4.back hp1) (o5.back hp2) n12 (m7.at (by simpa using n1) i2) (m7.at (by simpa using n2) i3)
theorem Off.made {S : List Addr} {H H' : Hp} {y : Addr} {o : HO} (x : Off (y :: S) (upd H y o) H') (h : H y = none) : Off S H H' :=
  ⟨fun a u n e => x.keep a u (by simp [ne_of_none e h, n]) (upd_new e h), fun a xs e => x.tups a xs (upd_new e h), fun a u v e => x.frzs a u v (upd_new e h), fun a u e => x.live a u (upd_new e h)⟩
theorem PkB.live {H : Hp} {y : Addr × Addr × Addr} {t : Bt} (h : PkB K H y t) : ∀ a ∈ tri y, ∃ o, H a = some o := by
  obtain ⟨⟨dx, h1⟩, ⟨us, h2, _⟩, ⟨ks, h3, _⟩⟩ := h
  intro a ha
  simp only [tri, List.mem_cons, List.not_mem_nil, or_false] at ha
  rcases ha with rfl | rfl | rfl
  · exact ⟨_, h1⟩
  · exact ⟨_, h2⟩
  · exact ⟨_, h3⟩
theorem paired_snoc {α β : Type} {F : α → β → Prop} {a : α} {b : β} : ∀ {l : List α} {m : List β}, Paired F l m → F a b → Paired F (l ++ [a]) (m ++ [b])
  | _, _, .nil, h => .cons h .nil
  | _, _, .cons r t, h => .cons r (paired_snoc t h)
theorem boats_live {H : Hp} : ∀ {bs : List (Addr × Addr × Addr)} {ts : List Bt}, Paired (PkB K H) bs ts → ∀ a ∈ bs.flatMap tri, ∃ o, H a = some o
  | _, _, .nil, a, h => by simp at h
  | _, _, .cons r t, a, h => by
    rw [List.flatMap_cons, List.mem_append] at h
    rcases h with h | h
    · exact r.live a h
    · exact boats_live t a h
def spSeaI (K : PySem.W.Frag) : Sp := fun vs H Q _ => ∃ x dx p pdx sh ss most late reserve, vs = [.ref x, .ref p] ∧ PlanOk ss most late reserve ∧ H x = some (.ins (He.ga K "Season") dx []) ∧ H p = some (.ins (He.ga K "Plan") pdx (planF sh most late reserve)) ∧ TupN H sh (ss.map V.int) ∧
  ∀ H' k, k.q = x → k.p = p → PkAt K H' k (Sea.new ss most late reserve) → Off [x] H H' → (∀ a ∈ k.foot, a = x ∨ a = p ∨ H a = none) → Q .non H'
theorem ok_Season_init (T : Txt P w K mg) : MkOk P w K mg base "Season" (He.ga K "Season") 3 ["self", "plan"] (spSeaI K) := by
  refine T.i_Season.ok sc_Season_init (fun _ _ _ _ _ _ us hl => match us, hl with | [_, _], _ => rfl) (fun vs H Q E h => ?_) (fun f cdv A outer s H vs Q E hr h => ?_)
  · obtain ⟨x, dx, p, pdx, sh, ss, most, late, reserve, rfl, _⟩ := h
    rfl
  · obtain ⟨x, dx, p, pdx, sh, ss, most, late, reserve, rfl, hg, hx, hp, hs, q⟩ := h
    have B := T.blt
    have hu := hu_of hr
    have G_demand := ok_demand (base := base) T
    have M_Boat := ok_Boat_init (base := base) T
    have cl_Plan := T.cl_Plan
    have is_Plan := T.is_Plan
    have cl_Boat := T.cl_Boat
    have is_Boat := T.is_Boat
    have na_Plan_shares := T.na_Plan_shares
    have cl_Season := T.cl_Season
    have is_Season := T.is_Season
    have na_Season_plan := T.na_Season_plan
    have na_Season_now := T.na_Season_now
    have na_Season__boats := T.na_Season__boats
    have na_Season__is_broken := T.na_Season__is_broken
    have na_Season__beyond := T.na_Season__beyond
    refine ⟨_, (pss_cons (ps_expr (pe_df G_demand (hr.mono (by decide)) (L2N.passes_call (L2N.takes_of rfl rfl rfl rfl) fun _ _ _ _ z => z) (pa_cons (pe_callB (call_isiK' (K := K) rfl) (by rfl) B.b_isinstance (by decide +kernel) (pa_cons (pv 1) (pa_cons (pe_glob (v := .ref (He.ga K "Plan")) rfl T.g_Plan rfl) pa_nil))) (pa_cons pe_str pa_nil))))
  (pss_cons (ps_fldK (K := K) rfl (pv 0) (pv 1) rfl)
  (pss_cons (ps_fldK (K := K) rfl (pv 0) pe_int rfl)
  (pss_cons (ps_fldK (K := K) rfl (pv 0) (pe_lc (own := [("share", 2)]) rfl sc_Season_init.nd (pi_tupK (K := K) rfl (pe_fldK (K := K) rfl (pv 1) rfl)) (blkOk_by (own := [("share", 2)]) (N := ["self", "plan", "share"]) (sc := defScope s_Season_init) (by decide +kernel)) (fun _ _ _ _ _ => (pg_name (i := 2) sc_Season_init.nd rfl (by first | exact Or.inl rfl | exact Or.inr rfl))) (fun _ _ _ _ _ => pts_nil) (fun _ _ _ _ _ => (pe_mk M_Boat (hr.mono (by decide)) passN (pa_cons (pv 2) pa_nil)))) rfl)
  (pss_cons (ps_fldK (K := K) rfl (pv 0) pe_bl rfl)
  (pss_one (ps_fldK (K := K) rfl (pv 0) pe_dnewK rfl))))))), ?_⟩
    have nxp : p ≠ x := fun z => by
      rw [z, hx] at hp
      injection hp with e
      injection e with e1 e2 e3
      simp [planF] at e3
    walk_at "go"
    refine ⟨_, _, rfl, fun _ => ?_, fun z => by cases z⟩
    walk_at "go"
    rename_i H1 l1 m1 H2 l2 m2
    have o2 : Off [x] H H2 := m1.trans m2
    have s2 := hs.off o2
    have n1 := hg.n1
    refine lcT_mk (fun D i H3 => ∃ bs : List (Addr × Addr × Addr), bs.length = i ∧ H3 D = some (.lst (bs.map fun y => .ref y.1)) ∧ Paired (PkB K H3) bs ((ss.take i).map Bt.new) ∧ (bs.flatMap tri).Nodup ∧ (∀ a ∈ bs.flatMap tri, H2 a = none ∧ a ≠ D) ∧ Off [] H2 H3)
      s2.sq (fun D hD => ⟨[], rfl, upd_same, by simp; exact .nil, by simp, by simp, .new hD⟩) (fun D i H3 hD hi hP => ?_) (fun D i v H3 hD hv hP => ?_) (fun D H3 hD hP => ?_)
    · obtain ⟨bs, b1, b2, b3, b4, b5, b6⟩ := hP
      exact (s2.off b6).sq
    · obtain ⟨bs, b1, b2, b3, b4, b5, b6⟩ := hP
      obtain ⟨sv, hsv, rfl⟩ : ∃ sv, ss[i]? = some sv ∧ V.int sv = v := by simpa using hv
      walk_at "go"
      refine ⟨rfl, ?_⟩
      walk_at "go"
      intro y dy hy hdy ndy
      refine ⟨y, dy, sv, rfl, upd_same, fun H4 u h c1 c2 c3 c4 c5 c6 c7 => ⟨rfl, ?_⟩⟩
      have hy2 : (upd H3 dy (.own y)) y = none := (upd_ne ndy.symm).trans hy
      have oX : Off [] H3 H4 := (Off.new hdy).trans (Off.made c2 hy2)
      have c3' := upd_back c3
      have hu3 : H3 u = none := (upd_back c3'.1).1
      have c4' := upd_back c4
      have hh3 : H3 h = none := (upd_back c4'.1).1
      have nDy : D ≠ y := ne_of_none b2 hy
      have nDu : D ≠ u := ne_of_none b2 hu3
      have nDh : D ≠ h := ne_of_none b2 hh3
      have bD : H4 D = _ := oX.at nin_nil b2
      have ol := boats_live b3
      refine g_app bD (by rw [List.length_map, b1, sizeLine_eq]; have := (List.getElem?_eq_some_iff.mp hsv).1; omega) ⟨bs ++ [(y, u, h)], by simp [b1], by rw [upd_same, List.map_append]; rfl, ?_, ?_, ?_, (b6.trans oX).mut hD⟩
      · have oP : Off [D] H4 (upd H4 D (.lst (bs.map (fun y => V.ref y.1) ++ [.ref y]))) := .put (by simp) bD trivial
        rw [List.take_add_one, hsv, List.map_append]
        refine paired_snoc (paired_set.paired_imp b3 fun j a t hj z => (z.off oX (by simp)).off oP fun c hc => ?_) ⟨⟨dy, oP.at (by simpa using nDy.symm) c1⟩, ⟨[], oP.at (by simpa using nDu.symm) c6, .nil⟩, ⟨[], oP.at (by simpa using nDh.symm) c7, .nil⟩⟩
        simpa using (b5 c (List.mem_flatMap.mpr ⟨a, List.mem_of_getElem? hj, hc⟩)).2
      · rw [List.flatMap_append, List.nodup_append]
        refine ⟨b4, ?_, fun a ha b hb e => ?_⟩
        · simp [tri, c5, Ne.symm c3'.2, Ne.symm c4'.2]
        · subst e
          obtain ⟨o', e⟩ := ol a ha
          simp only [List.flatMap_cons, List.flatMap_nil, tri, List.append_nil, List.mem_cons, List.not_mem_nil, or_false] at hb
          rcases hb with rfl | rfl | rfl
          · rw [hy] at e; cases e
          · rw [hu3] at e; cases e
          · rw [hh3] at e; cases e
      · intro a ha
        rw [List.flatMap_append, List.mem_append] at ha
        rcases ha with ha | ha
        · exact b5 a ha
        · simp only [List.flatMap_cons, List.flatMap_nil, tri, List.append_nil, List.mem_cons, List.not_mem_nil, or_false] at ha
          rcases ha with rfl | rfl | rfl
          · exact ⟨b6.back hy, nDy.symm⟩
          · exact ⟨b6.back hu3, nDu.symm⟩
          · exact ⟨b6.back hh3, nDh.symm⟩
    · obtain ⟨bs, b1, b2, b3, b4, b5, b6⟩ := hP
      have i0 : H3 x = _ := b6.at nin_nil l2
      walk_at "go"
      rename_i H4 l4 m4 H5 l5 m5 be hbe H6 l6 m6
      have p2 := o2.at (by simpa using nxp) hp
      have p3 := b6.at nin_nil p2
      have nDx : D ≠ x := fun z => by rw [z, l2] at hD; cases hD
      have nDp : D ≠ p := fun z => by rw [z, p2] at hD; cases hD
      have o35 : Off [x] H3 H5 := m4.trans m5
      have nbx : be ≠ x := fun z => by rw [z, l5] at hbe; cases hbe
      have o36 : Off [x] H3 H6 := (o35.new2 hbe).trans m6
      have nDb : D ≠ be := ne_of_none (o35.at (by simpa using nDx) b2) hbe
      have npb : p ≠ be := ne_of_none (o35.at (by simpa using nxp) p3) hbe
      have ol := boats_live b3
      rw [List.length_map, List.take_length] at b3
      have nfx : ∀ a ∈ bs.flatMap tri, a ≠ x := fun a ha z => by have := (b5 a ha).1; rw [z, l2] at this; cases this
      have nfp : ∀ a ∈ bs.flatMap tri, a ≠ p := fun a ha z => by have := (b5 a ha).1; rw [z, p2] at this; cases this
      have nfb : ∀ a ∈ bs.flatMap tri, a ≠ be := fun a ha => by
        obtain ⟨o', e⟩ := ol a ha
        exact ne_of_none (o35.at (by simpa using nfx a ha) e) hbe
      refine q H6 ⟨x, p, sh, D, be, bs⟩ rfl rfl ⟨⟨dx, l6.trans (by kernel_rfl)⟩, ⟨pdx, o36.at (by simpa using nxp) p3⟩, (s2.off b6).off o36, o36.at (by simpa using nDx) b2, ⟨[], m6.at (by simpa using nbx) upd_same, [], rfl, .refl _⟩, ?_, ?_⟩ ((o2.trans (b6.mono (by simp))).trans o36) ?_
      · refine paired_set.paired_imp b3 fun j a t hj z => z.off o36 fun c hc => ?_
        simpa using nfx c (List.mem_flatMap.mpr ⟨a, List.mem_of_getElem? hj, hc⟩)
      · unfold Pk.foot
        simp only [List.nodup_cons, List.mem_cons, not_or]
        exact ⟨⟨nxp.symm, nDx.symm, nbx.symm, fun z => nfx _ z rfl⟩, ⟨nDp.symm, npb, fun z => nfp _ z rfl⟩, ⟨nDb, fun z => (b5 _ z).2 rfl⟩, fun z => nfb _ z rfl, b4⟩
      · intro a ha
        simp only [Pk.foot, List.mem_cons] at ha
        rcases ha with rfl | rfl | rfl | rfl | ha
        · exact .inl rfl
        · exact .inr (.inl rfl)
        · exact .inr (.inr (o2.back hD))
        · exact .inr (.inr (o2.back (b6.back (o35.back hbe))))
        · exact .inr (.inr (o2.back (b5 a ha).1))
end
end SH
end

section
/-! #### the walk's words -/
local macro_rules | `(tactic| walk_at "ne0") => `(tactic| first
  | assumption
  | (refine Ne.symm ?_; assumption))
local macro_rules | `(tactic| walk_at "ne") => `(tactic| first
  | assumption
  | (refine Ne.symm ?_; assumption)
  | (refine' L2.ne_of_none ?gx (by assumption); (case gx => walk_at "hp"))
  | (refine' Ne.symm (L2.ne_of_none ?gx (by assumption)); (case gx => walk_at "hp")))
local macro_rules | `(tactic| walk_at "hp") => `(tactic| first
  | assumption
  | exact L2.upd_same
  | (refine' SH.upd_new ?gh (by assumption); (case gh => walk_at "hp"))
  | (refine' (L2.upd_ne ?gn).trans ?gh; (case gn => walk_at "ne0"); (case gh => walk_at "hp"))
  | (refine' SH.Off.at (by assumption) ?gn ?gh; (case gn => walk_at "nin"); (case gh => walk_at "hp")))
local macro_rules | `(tactic| walk_at "nin") => `(tactic| first
  | exact SH.nin_nil
  | (refine SH.nin_cons ?_ ?_; (· walk_at "ne0"); (· walk_at "nin")))
local macro_rules | `(tactic| walk_at "sq") => `(tactic| first
  | assumption
  | (apply L2.SqL.of; (· walk_at "hp"))
  | (apply L2.SqT.of; (· walk_at "hp"))
  | (refine' SH.seqT_new ?gx (by assumption); (case gx => walk_at "sq"))
  | (refine' SH.seqL_new ?gx (by assumption); (case gx => walk_at "sq"))
  | (refine' SH.Off.seqT (by assumption) ?gx; (case gx => walk_at "sq"))
  | (refine' SH.Off.seqL (by assumption) ?gy ?gx; (case gx => walk_at "sq"); (case gy => walk_at "nin")))
local macro_rules | `(tactic| walk_at "kd") => `(tactic| first
  | assumption | exact SH.KdV.int _ | exact SH.KdV.bl _ | exact SH.KdV.str _ | exact SH.KdV.non
  | (apply SH.KdV.tup; (· walk_at "sq")) | (apply SH.KdV.lst; (· walk_at "sq")))
/-- a way that cannot be -/
local macro_rules | `(tactic| walk_at "no") => `(tactic| (exfalso; first | assumption | omega | contradiction | (simp_all; done)))
/-- one step -/
local macro_rules | `(tactic| walk_at "g1") => `(tactic| with_reducible first
  | refine SH.g_var (by with_unfolding_all rfl) ?_ | refine SH.g_c ?_ | refine SH.g_op ?_ | refine SH.g_un ?_ | refine SH.g_I0 ?_ | refine SH.g_U ?_
  | refine SH.g_eqI ?_ | refine SH.g_neI ?_ | refine SH.g_eqS ?_ | refine SH.g_neS ?_
  | refine SH.g_test ?_ | refine SH.g_B ?_ | refine SH.g_isB ?_ | refine SH.g_and ?_ | refine SH.g_or ?_ | refine SH.g_not ?_ | refine SH.g_andV ?_ | refine SH.g_orV ?_ | refine SH.g_notV ?_ | refine SH.g_ifE ?_ | refine SH.g_chain ?_
  | refine SH.g_nil ?_ | refine SH.g_cons ?_ | refine SH.g_tup ?_ | refine SH.g_lst ?_ | refine SH.g_call ?_ | refine SH.g_fld ?_ | refine SH.g_meth ?_ | refine SH.g_make ?_ | refine SH.g_cb ?_ | refine SH.g_bm ?_
  | refine SH.g_seq ?_ | refine SH.g_asg ?_ | refine SH.g_name ?_ | refine SH.g_drop ?_ | refine SH.g_ret ?_ | refine SH.g_retN ?_ | refine SH.g_next ?_ | refine SH.g_brk ?_ | refine SH.g_cnt ?_ | refine SH.g_ifs ?_ | refine SH.g_par ?_ | refine SH.g_par2 ?_ | refine SH.g_fldS ?_ | refine SH.g_raise ?_ | refine SH.g_rs ?_
  | refine SH.g_sub ?_ | refine SH.g_yes ?_ | refine SH.g_sl ?_ | refine SH.g_noPart ?_ | refine SH.g_part ?_ | refine SH.g_intO ?_ | refine SH.g_dget ?_ | refine SH.g_dput ?_ | refine SH.g_forR ?_ | refine SH.g_forL ?_ | refine SH.g_forT ?_ | refine SH.g_lcR ?_ | refine SH.g_lcL ?_ | refine SH.g_lcT ?_ | refine SH.g_gcons ?_ | refine SH.g_gnil ?_
  | refine SH.br_t ?_ | refine SH.br_f ?_
  | refine SH.g_int ?_ | refine SH.g_abs ?_ | refine SH.g_max2 ?_ | refine SH.g_min2 ?_)
local macro_rules | `(tactic| walk_at "g2") => `(tactic| first
  | walk_at "g1"
  | ((with_reducible refine' SH.g_isiInt ?ga ?gz); (case ga => walk_at "kd"))
  | ((with_reducible refine' SH.g_isiBool ?ga ?gz); (case ga => walk_at "kd"))
  | ((with_reducible refine' SH.g_isiStr ?ga ?gz); (case ga => walk_at "kd"))
  | ((with_reducible refine' SH.g_isiTup ?ga ?gz); (case ga => walk_at "kd"))
  | ((with_reducible refine' SH.g_ixT ?ga ?gb ?gz); (case ga => walk_at "sq"); (case gb => rfl))
  | ((with_reducible refine' SH.g_ixL ?ga ?gb ?gz); (case ga => walk_at "sq"); (case gb => first | rfl | (apply SH.atI_refs; assumption)))
  | ((with_reducible refine SH.br_F ?_ ?_); (· decide +kernel)) | ((with_reducible refine SH.br_T ?_ ?_); (· decide +kernel)) | ((with_reducible refine SH.br_NF ?_ ?_); (· decide +kernel)) | ((with_reducible refine SH.br_NT ?_ ?_); (· decide +kernel))
  | ((with_reducible refine' SH.g_gtup ?ga ?gb ?gz); (case ga => walk_at "sq"); (case gb => rfl))
  | ((with_reducible refine' SH.g_lenT ?ga ?gz); (case ga => walk_at "sq"))
  | ((with_reducible refine' SH.g_lenL ?ga ?gz); (case ga => walk_at "sq"))
  | ((with_reducible refine SH.g_mkT (SH.sz rfl) ?_); intro _ _)
  | ((with_reducible refine SH.g_mkL (SH.sz rfl) ?_); intro _ _)
  | ((with_reducible refine SH.g_dnew ?_); intro _ _)
  | ((with_reducible refine' SH.g_tupL ?ga ?gz); (case ga => walk_at "sq"); intro _ _)
  | ((with_reducible refine' SH.g_lstL ?ga ?gz); (case ga => walk_at "sq"); intro _ _)
  | ((with_reducible refine' SH.g_lstT ?ga ?gz); (case ga => walk_at "sq"); intro _ _)
  | ((with_reducible refine' SH.g_dgR ?ga ?gb ?gz); (case ga => walk_at "hp"); (case gb => walk_at "dv"))
  | ((with_reducible refine' SH.g_fldR ?ga ?gb ?gc ?gd ?gz); (case ga => walk_at "hp"); (case gb => walk_at "cl"); (case gc => walk_at "na"); (case gd => walk_at "fv"))
  | ((with_reducible refine' SH.g_insR ?ga ?gb ?gz); (case ga => walk_at "hp"); (case gb => walk_at "fn"))
  | ((with_reducible refine' SH.g_setL ?ga ?gb ?gz); (case ga => walk_at "hp"); (case gb => rfl))
  | ((with_reducible refine SH.g_I ?_ ?_); (· walk_at "ci"))
  | ((with_reducible refine' SH.g_slL ?ga ?gz); (case ga => walk_at "sq"); intro _ _)
  | ((with_reducible refine' SH.g_cat ?ga ?gb ?gc ?gz); (case ga => walk_at "hp"); (case gb => walk_at "hp"); (case gc => walk_at "ls"); intro _ _))
/-- the side conditions of numbers: a divisor, a factor -/
local macro_rules | `(tactic| walk_at "ci") => `(tactic| first
  | (show _ ≠ _; omega) | (show _ < _; omega) | (constructor <;> omega) | (refine Or.inr ⟨?_, ?_⟩ <;> (show _ < _; omega)) | (refine Or.inl ⟨?_, ?_⟩ <;> (show _ < _; omega)) | (refine ⟨?_, ?_, ?_⟩ <;> decide))
local macro_rules | `(tactic| walk_at "ls") => `(tactic| first | (show _ ≤ _; exact Nat.le_trans (by assumption) (by decide)) | (show _ ≤ _; exact Nat.le_trans (by simp; omega) (by decide : 1000 ≤ sizeLine)))
local macro_rules | `(tactic| walk_at "dv") => `(tactic| rfl)
local macro_rules | `(tactic| walk_at "fv") => `(tactic| rfl)
local macro_rules | `(tactic| walk_at "fn") => `(tactic| rfl)
local macro_rules | `(tactic| walk_at "cl") => `(tactic| assumption)
local macro_rules | `(tactic| walk_at "na") => `(tactic| assumption)
local macro_rules | `(tactic| walk_at "go") => `(tactic| repeat walk_at "g2")
/-- a way is split -/
local macro_rules | `(tactic| walk_at "br") => `(tactic| with_reducible first
  | refine SH.br_d (fun _ => ?_) (fun _ => ?_) | refine SH.br_nd (fun _ => ?_) (fun _ => ?_) | refine SH.br_b (fun _ => ?_) (fun _ => ?_))
/-- all ways -/
local macro_rules | `(tactic| walk_at "all") => `(tactic| repeat' first | walk_at "g2" | (walk_at "br" <;> try (walk_at "no")))
/-- a truth value is the other -/
local macro_rules | `(tactic| walk_at "bq") => `(tactic| first | rfl | (simp_all; done) | (simp_all; omega) | (simp only [decide_eq_true_eq, decide_eq_false_iff_not, Bool.and_eq_true, Bool.or_eq_true] at *; omega))
/-- what was tracked is as it was -/
local macro_rules | `(tactic| walk_at "of") => `(tactic| first
  | assumption
  | exact SH.Off.refl _ _
  | (refine' SH.Off.new2 ?gx (by assumption); (case gx => walk_at "of"))
  | (refine' SH.Off.mut ?gx (by assumption); (case gx => walk_at "of"))
  | (refine' SH.Off.trans' ?gx (by assumption) ?gy; (case gy => (intro _ h; (first | exact h | (simp at h; done) | (simp at h ⊢; simp [h]; done)))); (case gx => walk_at "of")))
/-- the own season's dicts -/
local macro_rules | `(tactic| walk_at "dv") => `(tactic| with_reducible first
  | exact SH.bk_right | exact SH.bk_heard | exact SH.bk_landed | exact SH.bk_told | exact SH.bk_untold | exact SH.bk_unheard | exact SH.bk_present
  | exact SH.ok_own | exact SH.ok_now | exact SH.ok_boats | exact SH.ok_broken | exact SH.ok_beyond)
local macro_rules | `(tactic| walk_at "dw") => `(tactic| with_reducible first
  | exact SH.bp_right | exact SH.bp_heard | exact SH.bp_landed | exact SH.bp_told | exact SH.bp_untold | exact SH.bp_unheard | exact SH.bp_present
  | exact SH.op_now | exact SH.op_broken | exact SH.op_beyond)
local macro_rules | `(tactic| walk_at "g2") => `(tactic|
  ((with_reducible refine' SH.g_dpA ?ga ?gb ?gc ?gz); (case ga => walk_at "hp"); (case gb => walk_at "dw"); (case gc => exact SH.szk rfl); intro _ _ _))
local macro_rules | `(tactic| walk_at "sq") => `(tactic|
  ((refine' SH.seqT_put ?gx ?gy ?gz); (case gy => walk_at "hp"); (case gz => exact trivial); (case gx => walk_at "sq")))
local macro_rules | `(tactic| walk_at "g2") => `(tactic|
  ((with_reducible refine' SH.g_ixL ?ga ?gb ?gz); (case ga => walk_at "sq"); (case gb => first | rfl | (apply SH.atI_refs; assumption) | exact SH.atI_cons0)))
/-- the package's season: its instances -/
local macro_rules | `(tactic| walk_at "fv") => `(tactic| with_reducible first
  | exact SH.bf_right | exact SH.bf_heard | exact SH.bf_landed | exact SH.bf_told | exact SH.bf_untold | exact SH.bf_unheard | exact SH.bf_present
  | exact SH.pf_shares | exact SH.pf_most | exact SH.pf_late | exact SH.pf_reserve
  | exact SH.sf_plan | exact SH.sf_now | exact SH.sf_boats | exact SH.sf_broken | exact SH.sf_beyond)
local macro_rules | `(tactic| walk_at "fp") => `(tactic| with_reducible first
  | exact SH.bq_right | exact SH.bq_heard | exact SH.bq_landed | exact SH.bq_told | exact SH.bq_present | exact SH.sq_now | exact SH.sq_broken)
local macro_rules | `(tactic| walk_at "fn") => `(tactic| kernel_rfl)
local macro_rules | `(tactic| walk_at "lt") => `(tactic| (rw [PySem.sizeLine_eq]; omega))
local macro_rules | `(tactic| walk_at "g2") => `(tactic| first
  | (with_reducible first | refine SH.br_ntt ?_ | refine SH.br_ntf ?_ | refine SH.br_k ?_ | refine SH.br_nk ?_ | refine SH.g_fldAug ?_ | refine SH.g_rAdd ?_ | refine SH.g_rSub ?_)
  | ((with_reducible refine SH.br_inF ?_ ?_); (· decide +kernel)) | ((with_reducible refine SH.br_inT ?_ ?_); (· decide +kernel))
  | ((with_reducible refine' SH.g_inT ?ga ?gb ?gc ?gz); (case ga => walk_at "sq"); (case gb => exact rfl); (case gc => kernel_rfl))
  | ((with_reducible refine' SH.g_stA ?ga ?gb ?gc ?gd ?ge ?gz); (case ga => walk_at "hp"); (case gb => walk_at "cl"); (case gc => walk_at "na"); (case gd => walk_at "fp"); (case ge => exact SH.szf rfl); intro _ _ _)
  | ((with_reducible refine' SH.g_augR ?ga ?gb ?gc ?gd ?gz); (case ga => walk_at "hp"); (case gb => walk_at "cl"); (case gc => walk_at "na"); (case gd => walk_at "fv"))
  | ((with_reducible refine' SH.g_putC ?ga ?gb ?gc ?gz); (case ga => walk_at "hp"); (case gb => walk_at "fp"); (case gc => exact SH.szf rfl); intro _ _ _)
  | ((with_reducible refine' SH.g_app' ?ga ?gb ?gz); (case ga => walk_at "hp"); (case gb => walk_at "lt"); intro _ _ _)
  | ((with_reducible refine' SH.g_popF ?ga ?gz); (case ga => walk_at "hp"); intro _ _ _)
  | ((with_reducible refine' SH.g_bml ?ga ?gz); (case ga => walk_at "sq"))
  | ((with_reducible refine' SH.g_isiSelf ?ga ?gb ?gc ?gz); (case ga => walk_at "hp"); (case gb => walk_at "cl"); (case gc => walk_at "cl")))
local macro_rules | `(tactic| walk_at "g2") => `(tactic|
  ((with_reducible refine' SH.g_ixL ?ga ?gb ?gz); (case ga => walk_at "sq"); (case gb => first | rfl | (apply SH.atI_refs; assumption) | exact SH.atI_cons0 | (apply SH.atI_bs; assumption))))
namespace SH
open PySem PySem.Spec PyProof.Rows L2
def datV : V → PyData
  | .str z => .str z
  | .int i => .int i
  | _ => .none
def okV : V → Bool
  | .str z => PyData.canLay0 (.str z)
  | .int _ => true
  | _ => false
theorem flat_dpAll {K : PySem.W.Frag} {H : Hp} : ∀ {xs : List V}, xs.all okV = true → DpAll K H xs (xs.map datV)
  | [], _ => .nil
  | x :: xs, h => by
    rw [List.all_cons, Bool.and_eq_true] at h
    cases x with
    | str z => exact .cons (.str z) (flat_dpAll h.2)
    | int i => exact .cons (.int i) (flat_dpAll h.2)
    | _ => cases h.1
theorem flat_lay : ∀ {xs : List V}, xs.all okV = true → PyData.canLayAll0 (xs.map datV) = true
  | [], _ => rfl
  | x :: xs, h => by
    rw [List.all_cons, Bool.and_eq_true] at h
    show (PyData.canLay0 (datV x) && PyData.canLayAll0 (xs.map datV)) = true
    rw [flat_lay h.2]
    cases x with
    | str z => rw [Bool.and_true]; exact h.1
    | int i => rfl
    | _ => cases h.1
theorem flat_depth : ∀ {xs : List V}, xs.all okV = true → PyData.depthAll (xs.map datV) = 0
  | [], _ => rfl
  | x :: xs, h => by
    rw [List.all_cons, Bool.and_eq_true] at h
    show max (PyData.depth (datV x)) (PyData.depthAll (xs.map datV)) = 0
    rw [flat_depth h.2]
    cases x <;> first | rfl | cases h.1
theorem flat_shaped {xs : List V} (h : xs.all okV = true) : SeqAt.shaped (.tuple (xs.map datV)) = true := by
  unfold SeqAt.shaped
  rw [Bool.and_eq_true, decide_eq_true_eq]
  refine ⟨flat_lay h, ?_⟩
  show PyData.depthAll (xs.map datV) + 1 ≤ 64
  rw [flat_depth h]
  omega
theorem g_eqUnit {K : PySem.W.Frag} {H : Hp} {Q : VK} {p e : Addr} {x : V} {xs : List V} (h : SqT K H p (x :: xs)) (hf : (x :: xs).all okV = true) (hp : H e = some (.tup [])) (q : Q (.bl false) H) : rEqD K (.ref p) (.ref e) H Q :=
  g_eqD (.tup h (flat_dpAll hf)) (.tup (.of hp) .nil) (flat_shaped hf) rfl (by
    have : PyData.eqv (.tuple ((x :: xs).map datV)) (.tuple []) = false := rfl
    rw [this]; exact q)
theorem vs_ok (st : Stp) : st.vs.all okV = true := by cases st <;> kernel_rfl
theorem in_boat {b n : Nat} (h : b < n) : inB 0 ((n : Int) - 1) (.int (b : Int)) = true := by
  show (decide ((0 : Int) ≤ (b : Int)) && decide ((b : Int) ≤ (n : Int) - 1)) = true
  simp
  omega
theorem in_amt {n lo hi : Int} (h : lo ≤ n) (h2 : n ≤ hi) : inB lo hi (.int n) = true := by
  show (decide (lo ≤ n) && decide (n ≤ hi)) = true
  simp
  omega
def spSeaStep (K : PySem.W.Frag) : Sp := fun vs H Q _ => ∃ v st n, vs = [v, .int ((n : Nat) : Int)] ∧ StepAt K H v st ∧ st.ok n ∧ ∀ H', Off [] H H' → Q (.bl true) H'
section
variable {P : Program} {w : World} {K : PySem.W.Frag} {mg : Str → Option Value} {base : Heap}
theorem ok_is_season_step (T : Txt P w K mg) : DefOk P w K mg base "is_season_step" 3 ["step", "boats"] (spSeaStep K) := by
  refine T.d_is_season_step.ok sc_is_season_step (fun _ _ _ _ _ _ us hl => match us, hl with | [_, _], _ => rfl) (fun vs H Q E h => ?_) (fun f cdv A outer s H vs Q E hr h => ?_)
  · obtain ⟨v, st, n, rfl, _⟩ := h
    rfl
  · obtain ⟨v, st, n, rfl, ⟨p, rfl, hst⟩, hok, q⟩ := h
    have B := T.blt
    have hu := hu_of hr
    have G_is_in := ok_is_in (base := base) T
    have c_MOST_SHARE := T.c_MOST_SHARE
    have c_MOST_LANDING := T.c_MOST_LANDING
    refine ⟨_, (pss_cons (ps_if (PW.pt (pw_or (pt_not (pt_val (pe_callB (call_isiK' (K := K) rfl) (by rfl) B.b_isinstance (by decide +kernel) (pa_cons (pv 0) (pa_cons (pe_bltn (v := .ty "tuple") rfl B.b_tuple (by decide +kernel) rfl) pa_nil))) (by intro _; rfl))) (pw_or (pt_cmpR (op_eqDK (K := K) rfl hr.units) (pv 0) (pe_tup pa_nil) (nomark _)) (pw_or1 (pt_not (pt_val (pe_callB (call_isiK' (K := K) rfl) (by rfl) B.b_isinstance (by decide +kernel) (pa_cons (pe_ix (ix_tupK (K := K) rfl) (pv 0) pe_int (fun _ _ => rfl)) (pa_cons (pe_bltn (v := .ty "str") rfl B.b_str (by decide +kernel) rfl) pa_nil))) (by intro _; rfl)))))))
    (pss_one (ps_ret pe_bl))
    pss_nil)
  (pss_cons (ps_if (pt_cmpR op_eq (pe_ix (ix_tupK (K := K) rfl) (pv 0) pe_int (fun _ _ => rfl)) pe_str (nomark _))
    (pss_one (ps_ret (pe_cmpR op_eq (pe_callB (c_lenK (K := K) rfl) (by rfl) B.b_len PySem.boot_len (pa_cons (pv 0) pa_nil)) pe_int (nomark _))))
    pss_nil)
  (pss_cons (ps_if (PW.pt (pw_or (pt_cmpR op_lt (pe_callB (c_lenK (K := K) rfl) (by rfl) B.b_len PySem.boot_len (pa_cons (pv 0) pa_nil)) pe_int (nomark _)) (pw_or1 (pt_not (pt_val (pe_df G_is_in (hr.mono (by decide)) (L2N.passes_call (L2N.takes_of rfl rfl rfl rfl) fun _ _ _ _ z => z) (pa_cons (pe_ix (ix_tupK (K := K) rfl) (pv 0) pe_int (fun _ _ => rfl)) (pa_cons pe_int (pa_cons (pe_op op_sub (pv 1) pe_int) pa_nil)))) (by intro _; rfl))))))
    (pss_one (ps_ret pe_bl))
    pss_nil)
  (pss_cons (ps_if (pt_cmpR (op_in_seqK (K := K) rfl) (pe_ix (ix_tupK (K := K) rfl) (pv 0) pe_int (fun _ _ => rfl)) (pe_tup (pa_cons pe_str (pa_cons pe_str pa_nil))) (by rfl))
    (pss_one (ps_ret (pe_cmpR op_eq (pe_callB (c_lenK (K := K) rfl) (by rfl) B.b_len PySem.boot_len (pa_cons (pv 0) pa_nil)) pe_int (nomark _))))
    pss_nil)
  (pss_cons (ps_if (pt_cmpR op_eq (pe_ix (ix_tupK (K := K) rfl) (pv 0) pe_int (fun _ _ => rfl)) pe_str (nomark _))
    (pss_one (ps_ret (pe_and (pe_cmpR op_eq (pe_callB (c_lenK (K := K) rfl) (by rfl) B.b_len PySem.boot_len (pa_cons (pv 0) pa_nil)) pe_int (nomark _)) (pe_one (pe_df G_is_in (hr.mono (by decide)) (L2N.passes_call (L2N.takes_of rfl rfl rfl rfl) fun _ _ _ _ z => z) (pa_cons (pe_ix (ix_tupK (K := K) rfl) (pv 0) pe_int (fun _ _ => rfl)) (pa_cons pe_int (pa_cons (pe_cint c_MOST_LANDING) pa_nil))))))))
    pss_nil)
  (pss_cons (ps_if (PW.pt (pw_or (pt_cmpR op_ne (pe_ix (ix_tupK (K := K) rfl) (pv 0) pe_int (fun _ _ => rfl)) pe_str (nomark _)) (pw_or (pt_cmpR op_ne (pe_callB (c_lenK (K := K) rfl) (by rfl) B.b_len PySem.boot_len (pa_cons (pv 0) pa_nil)) pe_int (nomark _)) (pw_or1 (pt_not (pt_val (pe_df G_is_in (hr.mono (by decide)) (L2N.passes_call (L2N.takes_of rfl rfl rfl rfl) fun _ _ _ _ z => z) (pa_cons (pe_ix (ix_tupK (K := K) rfl) (pv 0) pe_int (fun _ _ => rfl)) (pa_cons pe_int (pa_cons (pe_op op_sub (pv 1) pe_int) pa_nil)))) (by intro _; rfl)))))))
    (pss_one (ps_ret pe_bl))
    pss_nil)
  (pss_one (ps_ret (pe_and (pe_cmpR op_ne (pe_ix (ix_tupK (K := K) rfl) (pv 0) pe_int (fun _ _ => rfl)) (pe_ix (ix_tupK (K := K) rfl) (pv 0) pe_int (fun _ _ => rfl)) (nomark _)) (pe_one (pe_df G_is_in (hr.mono (by decide)) (L2N.passes_call (L2N.takes_of rfl rfl rfl rfl) fun _ _ _ _ z => z) (pa_cons (pe_ix (ix_tupK (K := K) rfl) (pv 0) pe_int (fun _ _ => rfl)) (pa_cons pe_int (pa_cons (pe_cint c_MOST_SHARE) pa_nil)))))))))))))), ?_⟩
    have hne : ∃ x xs, st.vs = x :: xs := by cases st <;> exact ⟨_, _, rfl⟩
    cases st with
    | tick =>
      have hst' : SqT K H p [.str "tick"] := hst
      walk_at "go"
      rename_i e he
      refine g_eqUnit (seqT_new hst' he) (vs_ok .tick) upd_same ?_
      walk_at "go"
      exact q _ (.new he)
    | land b m =>
      have hst' : SqT K H p [.str "land", .int b, .int m] := hst
      walk_at "go"
      rename_i e he
      refine g_eqUnit (seqT_new hst' he) (vs_ok (.land b m)) upd_same ?_
      walk_at "go"
      refine br_F (by simp) ?_
      walk_at "go"
      refine ⟨_, _, _, _, rfl, .int _, ?_⟩
      rw [in_boat hok.1]
      walk_at "go"
      refine br_T (by simp) ?_
      walk_at "go"
      refine ⟨_, _, _, _, rfl, .int _, ?_⟩
      rw [in_amt hok.2.1 hok.2.2]
      walk_at "go"
      rename_i p2 hp2
      exact q _ ((Off.new he).new2 hp2)
    | tell b =>
      have hst' : SqT K H p [.str "tell", .int b] := hst
      walk_at "go"
      rename_i e he
      refine g_eqUnit (seqT_new hst' he) (vs_ok (.tell b)) upd_same ?_
      walk_at "go"
      refine br_F (by simp) ?_
      walk_at "go"
      refine ⟨_, _, _, _, rfl, .int _, ?_⟩
      rw [in_boat hok]
      walk_at "go"
      rename_i p2 hp2
      exact qb (q _ ((Off.new he).new2 hp2)) (by simp)
    | hear b =>
      have hst' : SqT K H p [.str "hear", .int b] := hst
      walk_at "go"
      rename_i e he
      refine g_eqUnit (seqT_new hst' he) (vs_ok (.hear b)) upd_same ?_
      walk_at "go"
      refine br_F (by simp) ?_
      walk_at "go"
      refine ⟨_, _, _, _, rfl, .int _, ?_⟩
      rw [in_boat hok]
      walk_at "go"
      rename_i p2 hp2
      exact qb (q _ ((Off.new he).new2 hp2)) (by simp)
    | trade f2 t2 m =>
      have hst' : SqT K H p [.str "trade", .int f2, .int t2, .int m] := hst
      walk_at "go"
      rename_i e he
      refine g_eqUnit (seqT_new hst' he) (vs_ok (.trade f2 t2 m)) upd_same ?_
      walk_at "go"
      refine br_F (by simp) ?_
      walk_at "go"
      refine ⟨_, _, _, _, rfl, .int _, ?_⟩
      rw [in_boat hok.1]
      walk_at "go"
      rename_i p2 hp2
      refine br_NT (by simp) ?_
      walk_at "go"
      refine ⟨_, _, _, _, rfl, .int _, ?_⟩
      rw [in_boat hok.2.1]
      walk_at "go"
      refine br_NF (fun z => hok.2.2.1 (Int.ofNat.inj z)) ?_
      walk_at "go"
      refine ⟨_, _, _, _, rfl, .int _, ?_⟩
      rw [in_amt hok.2.2.2.1 hok.2.2.2.2]
      exact q _ ((Off.new he).new2 hp2)
def spBoatOf (K : PySem.W.Frag) : Sp := fun vs H Q _ => ∃ k s b y, vs = [.ref k.q, .int ((b : Nat) : Int)] ∧ PkAt K H k s ∧ k.bs[b]? = some y ∧ ∀ H', Off [] H H' → Q (.ref y.1) H'
def spGetI (K : PySem.W.Frag) (g : Bt → Int) : Sp := fun vs H Q _ => ∃ k s b t, vs = [.ref k.q, .int ((b : Nat) : Int)] ∧ PkAt K H k s ∧ s.boats[b]? = some t ∧ ∀ H', Off [] H H' → Q (.int (g t)) H'
def spGetT (K : PySem.W.Frag) (g : Bt → List (Int × Int)) : Sp := fun vs H Q _ => ∃ k s b t, vs = [.ref k.q, .int ((b : Nat) : Int)] ∧ PkAt K H k s ∧ s.boats[b]? = some t ∧ ∀ H' p xs, H' p = some (.tup xs) → RowsR H' xs (g t) → Off [] H H' → Q (.ref p) H'
theorem pk_boat {H : Hp} {k : Pk} {s : Sea} (x : PkAt K H k s) {i : Nat} {t : Bt} (ht : s.boats[i]? = some t) : ∃ y, k.bs[i]? = some y ∧ PkB K H y t := paired_get x.boats ht
theorem ok_Season_boat_of (T : Txt P w K mg) : MthOk P w K mg base (He.ga K "Season") "boat_of" 3 ["self", "boat"] (spBoatOf K) := by
  refine T.m_Season_boat_of.ok T.cl_Season sc_Season_boat_of (fun _ _ _ _ _ _ us hl => match us, hl with | [_, _], _ => rfl) (fun vs H Q E h => ?_) (fun f cdv A outer s H vs Q E hr h => ?_)
  · obtain ⟨k, s, b, y, rfl, _⟩ := h
    rfl
  · obtain ⟨k, s, b, y, rfl, hx, hb, q⟩ := h
    have B := T.blt
    have hu := hu_of hr
    have G_demand := ok_demand (base := base) T
    have G_is_in := ok_is_in (base := base) T
    have cl_Plan := T.cl_Plan
    have is_Plan := T.is_Plan
    have cl_Boat := T.cl_Boat
    have is_Boat := T.is_Boat
    have cl_Season := T.cl_Season
    have is_Season := T.is_Season
    have na_Season__boats := T.na_Season__boats
    refine ⟨_, (pss_cons (ps_expr (pe_df G_demand (hr.mono (by decide)) (L2N.passes_call (L2N.takes_of rfl rfl rfl rfl) fun _ _ _ _ z => z) (pa_cons (pe_df G_is_in (hr.mono (by decide)) (L2N.passes_call (L2N.takes_of rfl rfl rfl rfl) fun _ _ _ _ z => z) (pa_cons (pv 1) (pa_cons pe_int (pa_cons (pe_op op_sub (pe_callB (c_lenK (K := K) rfl) (by rfl) B.b_len PySem.boot_len (pa_cons (pe_fldK (K := K) rfl (pv 0) rfl) pa_nil)) pe_int) pa_nil)))) (pa_cons pe_str pa_nil))))
  (pss_one (ps_ret (pe_ix (ix_listK (K := K) rfl) (pe_fldK (K := K) rfl (pv 0) rfl) (pv 1) (fun _ _ => rfl))))), ?_⟩
    obtain ⟨dq, h1⟩ := hx.hq
    have hl := hx.hl
    have e1 : atI (k.bs.map fun x => V.ref x.1) (b : Int) = some (.ref y.1) := by
      have := atI_refs (bs := k.bs.map (·.1)) (b := b) (a := y.1) (by simp [hb])
      rwa [List.map_map] at this
    walk_at "go"
    refine ⟨_, _, _, _, rfl, .int _, ?_⟩
    have hlt : b < k.bs.length := (List.getElem?_eq_some_iff.mp hb).1
    rw [List.length_map, in_boat hlt]
    walk_at "go"
    refine ⟨_, _, rfl, fun _ => ?_, fun z => by cases z⟩
    walk_at "go"
    exact q _ (.refl _ _)
theorem ok_Season_right (T : Txt P w K mg) : MthOk P w K mg base (He.ga K "Season") "right" 4 ["self", "boat"] (spGetI K Bt.right) := by
  refine T.m_Season_right.ok T.cl_Season sc_Season_right (fun _ _ _ _ _ _ us hl => match us, hl with | [_, _], _ => rfl) (fun vs H Q E h => ?_) (fun f cdv A outer s H vs Q E hr h => ?_)
  · obtain ⟨k, s, b, t, rfl, _⟩ := h
    rfl
  · obtain ⟨k, s, b, t, rfl, hx, ht, q⟩ := h
    have B := T.blt
    have hu := hu_of hr
    have G_Season_boat_of := ok_Season_boat_of (base := base) T
    have cl_Plan := T.cl_Plan
    have is_Plan := T.is_Plan
    have cl_Boat := T.cl_Boat
    have is_Boat := T.is_Boat
    have na_Boat_right := T.na_Boat_right
    have cl_Season := T.cl_Season
    have is_Season := T.is_Season
    refine ⟨_, (pss_one (ps_ret (pe_fldK (K := K) rfl (pe_mth G_Season_boat_of (hr.mono (by decide)) (L2N.passes_call (L2N.takes_of rfl rfl rfl rfl) fun _ _ _ _ z => z) (pv 0) (pa_cons (pv 1) pa_nil)) rfl))), ?_⟩
    obtain ⟨dq, h1⟩ := hx.hq
    obtain ⟨y, hy, ⟨db, hb⟩, _⟩ := pk_boat hx ht
    walk_at "go"
    refine ⟨k, s, b, y, rfl, hx, hy, fun H1 o1 => ?_⟩
    have hb1 := o1.at nin_nil hb
    walk_at "go"
    exact q _ o1
theorem ok_Season_landed (T : Txt P w K mg) : MthOk P w K mg base (He.ga K "Season") "landed" 4 ["self", "boat"] (spGetI K Bt.landed) := by
  refine T.m_Season_landed.ok T.cl_Season sc_Season_landed (fun _ _ _ _ _ _ us hl => match us, hl with | [_, _], _ => rfl) (fun vs H Q E h => ?_) (fun f cdv A outer s H vs Q E hr h => ?_)
  · obtain ⟨k, s, b, t, rfl, _⟩ := h
    rfl
  · obtain ⟨k, s, b, t, rfl, hx, ht, q⟩ := h
    have B := T.blt
    have hu := hu_of hr
    have G_Season_boat_of := ok_Season_boat_of (base := base) T
    have cl_Plan := T.cl_Plan
    have is_Plan := T.is_Plan
    have cl_Boat := T.cl_Boat
    have is_Boat := T.is_Boat
    have na_Boat_landed := T.na_Boat_landed
    have cl_Season := T.cl_Season
    have is_Season := T.is_Season
    refine ⟨_, (pss_one (ps_ret (pe_fldK (K := K) rfl (pe_mth G_Season_boat_of (hr.mono (by decide)) (L2N.passes_call (L2N.takes_of rfl rfl rfl rfl) fun _ _ _ _ z => z) (pv 0) (pa_cons (pv 1) pa_nil)) rfl))), ?_⟩
    obtain ⟨dq, h1⟩ := hx.hq
    obtain ⟨y, hy, ⟨db, hb⟩, _⟩ := pk_boat hx ht
    walk_at "go"
    refine ⟨k, s, b, y, rfl, hx, hy, fun H1 o1 => ?_⟩
    have hb1 := o1.at nin_nil hb
    walk_at "go"
    exact q _ o1
theorem ok_Season_told (T : Txt P w K mg) : MthOk P w K mg base (He.ga K "Season") "told" 4 ["self", "boat"] (spGetI K Bt.told) := by
  refine T.m_Season_told.ok T.cl_Season sc_Season_told (fun _ _ _ _ _ _ us hl => match us, hl with | [_, _], _ => rfl) (fun vs H Q E h => ?_) (fun f cdv A outer s H vs Q E hr h => ?_)
  · obtain ⟨k, s, b, t, rfl, _⟩ := h
    rfl
  · obtain ⟨k, s, b, t, rfl, hx, ht, q⟩ := h
    have B := T.blt
    have hu := hu_of hr
    have G_Season_boat_of := ok_Season_boat_of (base := base) T
    have cl_Plan := T.cl_Plan
    have is_Plan := T.is_Plan
    have cl_Boat := T.cl_Boat
    have is_Boat := T.is_Boat
    have na_Boat_told := T.na_Boat_told
    have cl_Season := T.cl_Season
    have is_Season := T.is_Season
    refine ⟨_, (pss_one (ps_ret (pe_fldK (K := K) rfl (pe_mth G_Season_boat_of (hr.mono (by decide)) (L2N.passes_call (L2N.takes_of rfl rfl rfl rfl) fun _ _ _ _ z => z) (pv 0) (pa_cons (pv 1) pa_nil)) rfl))), ?_⟩
    obtain ⟨dq, h1⟩ := hx.hq
    obtain ⟨y, hy, ⟨db, hb⟩, _⟩ := pk_boat hx ht
    walk_at "go"
    refine ⟨k, s, b, y, rfl, hx, hy, fun H1 o1 => ?_⟩
    have hb1 := o1.at nin_nil hb
    walk_at "go"
    exact q _ o1
theorem ok_Season_heard (T : Txt P w K mg) : MthOk P w K mg base (He.ga K "Season") "heard" 4 ["self", "boat"] (spGetI K Bt.heard) := by
  refine T.m_Season_heard.ok T.cl_Season sc_Season_heard (fun _ _ _ _ _ _ us hl => match us, hl with | [_, _], _ => rfl) (fun vs H Q E h => ?_) (fun f cdv A outer s H vs Q E hr h => ?_)
  · obtain ⟨k, s, b, t, rfl, _⟩ := h
    rfl
  · obtain ⟨k, s, b, t, rfl, hx, ht, q⟩ := h
    have B := T.blt
    have hu := hu_of hr
    have G_Season_boat_of := ok_Season_boat_of (base := base) T
    have cl_Plan := T.cl_Plan
    have is_Plan := T.is_Plan
    have cl_Boat := T.cl_Boat
    have is_Boat := T.is_Boat
    have na_Boat_heard := T.na_Boat_heard
    have cl_Season := T.cl_Season
    have is_Season := T.is_Season
    refine ⟨_, (pss_one (ps_ret (pe_fldK (K := K) rfl (pe_mth G_Season_boat_of (hr.mono (by decide)) (L2N.passes_call (L2N.takes_of rfl rfl rfl rfl) fun _ _ _ _ z => z) (pv 0) (pa_cons (pv 1) pa_nil)) rfl))), ?_⟩
    obtain ⟨dq, h1⟩ := hx.hq
    obtain ⟨y, hy, ⟨db, hb⟩, _⟩ := pk_boat hx ht
    walk_at "go"
    refine ⟨k, s, b, y, rfl, hx, hy, fun H1 o1 => ?_⟩
    have hb1 := o1.at nin_nil hb
    walk_at "go"
    exact q _ o1
theorem ok_Season_untold (T : Txt P w K mg) : MthOk P w K mg base (He.ga K "Season") "untold" 4 ["self", "boat"] (spGetT K Bt.untold) := by
  refine T.m_Season_untold.ok T.cl_Season sc_Season_untold (fun _ _ _ _ _ _ us hl => match us, hl with | [_, _], _ => rfl) (fun vs H Q E h => ?_) (fun f cdv A outer s H vs Q E hr h => ?_)
  · obtain ⟨k, s, b, t, rfl, _⟩ := h
    rfl
  · obtain ⟨k, s, b, t, rfl, hx, ht, q⟩ := h
    have B := T.blt
    have hu := hu_of hr
    have G_Season_boat_of := ok_Season_boat_of (base := base) T
    have cl_Plan := T.cl_Plan
    have is_Plan := T.is_Plan
    have cl_Boat := T.cl_Boat
    have is_Boat := T.is_Boat
    have na_Boat_untold := T.na_Boat_untold
    have cl_Season := T.cl_Season
    have is_Season := T.is_Season
    refine ⟨_, (pss_one (ps_ret (pe_callTy (c_tupK (K := K) rfl) (by rfl) B.b_tuple (by decide +kernel) (pa_cons (pe_fldK (K := K) rfl (pe_mth G_Season_boat_of (hr.mono (by decide)) (L2N.passes_call (L2N.takes_of rfl rfl rfl rfl) fun _ _ _ _ z => z) (pv 0) (pa_cons (pv 1) pa_nil)) rfl) pa_nil)))), ?_⟩
    obtain ⟨dq, h1⟩ := hx.hq
    obtain ⟨y, hy, ⟨db, hb⟩, ⟨us, hu1, hu2⟩, _⟩ := pk_boat hx ht
    walk_at "go"
    refine ⟨k, s, b, y, rfl, hx, hy, fun H1 o1 => ?_⟩
    have hb1 := o1.at nin_nil hb
    have hu3 := o1.at nin_nil hu1
    walk_at "go"
    rename_i p hp
    exact q _ p us upd_same (hu2.off (o1.new2 hp)) (o1.new2 hp)
theorem ok_Season_unheard (T : Txt P w K mg) : MthOk P w K mg base (He.ga K "Season") "unheard" 4 ["self", "boat"] (spGetT K Bt.unheard) := by
  refine T.m_Season_unheard.ok T.cl_Season sc_Season_unheard (fun _ _ _ _ _ _ us hl => match us, hl with | [_, _], _ => rfl) (fun vs H Q E h => ?_) (fun f cdv A outer s H vs Q E hr h => ?_)
  · obtain ⟨k, s, b, t, rfl, _⟩ := h
    rfl
  · obtain ⟨k, s, b, t, rfl, hx, ht, q⟩ := h
    have B := T.blt
    have hu := hu_of hr
    have G_Season_boat_of := ok_Season_boat_of (base := base) T
    have cl_Plan := T.cl_Plan
    have is_Plan := T.is_Plan
    have cl_Boat := T.cl_Boat
    have is_Boat := T.is_Boat
    have na_Boat_unheard := T.na_Boat_unheard
    have cl_Season := T.cl_Season
    have is_Season := T.is_Season
    refine ⟨_, (pss_one (ps_ret (pe_callTy (c_tupK (K := K) rfl) (by rfl) B.b_tuple (by decide +kernel) (pa_cons (pe_fldK (K := K) rfl (pe_mth G_Season_boat_of (hr.mono (by decide)) (L2N.passes_call (L2N.takes_of rfl rfl rfl rfl) fun _ _ _ _ z => z) (pv 0) (pa_cons (pv 1) pa_nil)) rfl) pa_nil)))), ?_⟩
    obtain ⟨dq, h1⟩ := hx.hq
    obtain ⟨y, hy, ⟨db, hb⟩, _, ⟨us, hu1, hu2⟩⟩ := pk_boat hx ht
    walk_at "go"
    refine ⟨k, s, b, y, rfl, hx, hy, fun H1 o1 => ?_⟩
    have hb1 := o1.at nin_nil hb
    have hu3 := o1.at nin_nil hu1
    walk_at "go"
    rename_i p hp
    exact q _ p us upd_same (hu2.off (o1.new2 hp)) (o1.new2 hp)
def spIsBr (K : PySem.W.Frag) : Sp := fun vs H Q _ => ∃ k s, vs = [.ref k.q] ∧ PkAt K H k s ∧ Q (.bl s.broken) H
theorem ok_Season_is_broken (T : Txt P w K mg) : MthOk P w K mg base (He.ga K "Season") "is_broken" 1 ["self"] (spIsBr K) := by
  refine T.m_Season_is_broken.ok T.cl_Season sc_Season_is_broken (fun _ _ _ _ _ _ us hl => match us, hl with | [_], _ => rfl) (fun vs H Q E h => ?_) (fun f cdv A outer s H vs Q E hr h => ?_)
  · obtain ⟨k, s, rfl, _⟩ := h
    rfl
  · obtain ⟨k, s, rfl, hx, q⟩ := h
    have B := T.blt
    have hu := hu_of hr
    have cl_Plan := T.cl_Plan
    have is_Plan := T.is_Plan
    have cl_Boat := T.cl_Boat
    have is_Boat := T.is_Boat
    have cl_Season := T.cl_Season
    have is_Season := T.is_Season
    have na_Season__is_broken := T.na_Season__is_broken
    refine ⟨_, (pss_one (ps_ret (pe_fldK (K := K) rfl (pv 0) rfl))), ?_⟩
    obtain ⟨dq, h1⟩ := hx.hq
    walk_at "go"
    exact q
def spBey (K : PySem.W.Frag) : Sp := fun vs H Q _ => ∃ k s, vs = [.ref k.q] ∧ PkAt K H k s ∧ ∀ H' p, H' p = some (.tup ((beyL s.bl s.bm).map V.str)) → Off [] H H' → Q (.ref p) H'
def rSortD : List V → Hp → VK → Prop := fun xs H Q => ∃ (a : Addr) (kvs : List (Key × V)) (ks : List Str), xs = [.ref a] ∧ Rd H a (.dK kvs) ∧ kvs.map (·.1) = ks.map Sum.inr ∧ ks.length < 64 ∧
    ∀ ys p, ys.Perm ks → sortedS ys = true → H p = none → Q (.ref p) (upd H p (.lst (ys.map V.str)))
theorem cr_sortedD {X : Cx} (hc : X.calm = true) : CallR X (.builtin "sorted") rSortD := call_sortedD hc
theorem bey_sort {bl bm : Bool} {ys ks : List Str} (h : ys.Perm ks) (s : sortedS ys = true) (e : ks.Perm (beyL bl bm)) : ys = beyL bl bm := by
  have h := h.trans e
  cases bl <;> cases bm
  · exact List.perm_nil.mp h
  · exact List.perm_singleton.mp h
  · exact List.perm_singleton.mp h
  · exact two_sorted (h.trans (.swap _ _ [])) s
theorem ok_Season_beyond (T : Txt P w K mg) : MthOk P w K mg base (He.ga K "Season") "beyond" 1 ["self"] (spBey K) := by
  refine T.m_Season_beyond.ok T.cl_Season sc_Season_beyond (fun _ _ _ _ _ _ us hl => match us, hl with | [_], _ => rfl) (fun vs H Q E h => ?_) (fun f cdv A outer s H vs Q E hr h => ?_)
  · obtain ⟨k, s, rfl, _⟩ := h
    rfl
  · obtain ⟨k, s, rfl, hx, q⟩ := h
    have B := T.blt
    have hu := hu_of hr
    have cl_Plan := T.cl_Plan
    have is_Plan := T.is_Plan
    have cl_Boat := T.cl_Boat
    have is_Boat := T.is_Boat
    have cl_Season := T.cl_Season
    have is_Season := T.is_Season
    have na_Season__beyond := T.na_Season__beyond
    refine ⟨_, (pss_one (ps_ret (pe_callTy (c_tupK (K := K) rfl) (by rfl) B.b_tuple (by decide +kernel) (pa_cons (pe_callB (cr_sortedD rfl) (by rfl) B.b_sorted (by decide +kernel) (pa_cons (pe_fldK (K := K) rfl (pv 0) rfl) pa_nil)) pa_nil)))), ?_⟩
    obtain ⟨dq, h1⟩ := hx.hq
    obtain ⟨kvs, h2, ks, rfl, hp⟩ := hx.hb
    walk_at "go"
    refine ⟨_, _, ks, rfl, .inl h2, by rw [List.map_map]; rfl, by rw [hp.length_eq]; have := bey_len s.bl s.bm; omega, fun ys p y1 y2 y3 => ?_⟩
    rw [bey_sort y1 y2 hp]
    walk_at "go"
    rename_i p2 hp2
    exact q _ p2 upd_same ((Off.new y3).new2 hp2)
end
end SH
end

section
/-! #### the walk's words -/
local macro_rules | `(tactic| walk_at "ne0") => `(tactic| first
  | assumption
  | (refine Ne.symm ?_; assumption))
local macro_rules | `(tactic| walk_at "ne") => `(tactic| first
  | assumption
  | (refine Ne.symm ?_; assumption)
  | (refine' L2.ne_of_none ?gx (by assumption); (case gx => walk_at "hp"))
  | (refine' Ne.symm (L2.ne_of_none ?gx (by assumption)); (case gx => walk_at "hp")))
local macro_rules | `(tactic| walk_at "hp") => `(tactic| first
  | assumption
  | exact L2.upd_same
  | (refine' SH.upd_new ?gh (by assumption); (case gh => walk_at "hp"))
  | (refine' (L2.upd_ne ?gn).trans ?gh; (case gn => walk_at "ne0"); (case gh => walk_at "hp"))
  | (refine' SH.Off.at (by assumption) ?gn ?gh; (case gn => walk_at "nin"); (case gh => walk_at "hp")))
local macro_rules | `(tactic| walk_at "nin") => `(tactic| first
  | exact SH.nin_nil
  | (refine SH.nin_cons ?_ ?_; (· walk_at "ne0"); (· walk_at "nin")))
local macro_rules | `(tactic| walk_at "sq") => `(tactic| first
  | assumption
  | (apply L2.SqL.of; (· walk_at "hp"))
  | (apply L2.SqT.of; (· walk_at "hp"))
  | (refine' SH.seqT_new ?gx (by assumption); (case gx => walk_at "sq"))
  | (refine' SH.seqL_new ?gx (by assumption); (case gx => walk_at "sq"))
  | (refine' SH.Off.seqT (by assumption) ?gx; (case gx => walk_at "sq"))
  | (refine' SH.Off.seqL (by assumption) ?gy ?gx; (case gx => walk_at "sq"); (case gy => walk_at "nin")))
local macro_rules | `(tactic| walk_at "kd") => `(tactic| first
  | assumption | exact SH.KdV.int _ | exact SH.KdV.bl _ | exact SH.KdV.str _ | exact SH.KdV.non
  | (apply SH.KdV.tup; (· walk_at "sq")) | (apply SH.KdV.lst; (· walk_at "sq")))
/-- a way that cannot be -/
local macro_rules | `(tactic| walk_at "no") => `(tactic| (exfalso; first | assumption | omega | contradiction | (simp_all; done)))
/-- one step -/
local macro_rules | `(tactic| walk_at "g1") => `(tactic| with_reducible first
  | refine SH.g_var (by with_unfolding_all rfl) ?_ | refine SH.g_c ?_ | refine SH.g_op ?_ | refine SH.g_un ?_ | refine SH.g_I0 ?_ | refine SH.g_U ?_
  | refine SH.g_eqI ?_ | refine SH.g_neI ?_ | refine SH.g_eqS ?_ | refine SH.g_neS ?_
  | refine SH.g_test ?_ | refine SH.g_B ?_ | refine SH.g_isB ?_ | refine SH.g_and ?_ | refine SH.g_or ?_ | refine SH.g_not ?_ | refine SH.g_andV ?_ | refine SH.g_orV ?_ | refine SH.g_notV ?_ | refine SH.g_ifE ?_ | refine SH.g_chain ?_
  | refine SH.g_nil ?_ | refine SH.g_cons ?_ | refine SH.g_tup ?_ | refine SH.g_lst ?_ | refine SH.g_call ?_ | refine SH.g_fld ?_ | refine SH.g_meth ?_ | refine SH.g_make ?_ | refine SH.g_cb ?_ | refine SH.g_bm ?_
  | refine SH.g_seq ?_ | refine SH.g_asg ?_ | refine SH.g_name ?_ | refine SH.g_drop ?_ | refine SH.g_ret ?_ | refine SH.g_retN ?_ | refine SH.g_next ?_ | refine SH.g_brk ?_ | refine SH.g_cnt ?_ | refine SH.g_ifs ?_ | refine SH.g_par ?_ | refine SH.g_par2 ?_ | refine SH.g_fldS ?_ | refine SH.g_raise ?_ | refine SH.g_rs ?_
  | refine SH.g_sub ?_ | refine SH.g_yes ?_ | refine SH.g_sl ?_ | refine SH.g_noPart ?_ | refine SH.g_part ?_ | refine SH.g_intO ?_ | refine SH.g_dget ?_ | refine SH.g_dput ?_ | refine SH.g_forR ?_ | refine SH.g_forL ?_ | refine SH.g_forT ?_ | refine SH.g_lcR ?_ | refine SH.g_lcL ?_ | refine SH.g_lcT ?_ | refine SH.g_gcons ?_ | refine SH.g_gnil ?_
  | refine SH.br_t ?_ | refine SH.br_f ?_
  | refine SH.g_int ?_ | refine SH.g_abs ?_ | refine SH.g_max2 ?_ | refine SH.g_min2 ?_)
local macro_rules | `(tactic| walk_at "g2") => `(tactic| first
  | walk_at "g1"
  | ((with_reducible refine' SH.g_isiInt ?ga ?gz); (case ga => walk_at "kd"))
  | ((with_reducible refine' SH.g_isiBool ?ga ?gz); (case ga => walk_at "kd"))
  | ((with_reducible refine' SH.g_isiStr ?ga ?gz); (case ga => walk_at "kd"))
  | ((with_reducible refine' SH.g_isiTup ?ga ?gz); (case ga => walk_at "kd"))
  | ((with_reducible refine' SH.g_ixT ?ga ?gb ?gz); (case ga => walk_at "sq"); (case gb => rfl))
  | ((with_reducible refine' SH.g_ixL ?ga ?gb ?gz); (case ga => walk_at "sq"); (case gb => first | rfl | (apply SH.atI_refs; assumption)))
  | ((with_reducible refine SH.br_F ?_ ?_); (· decide +kernel)) | ((with_reducible refine SH.br_T ?_ ?_); (· decide +kernel)) | ((with_reducible refine SH.br_NF ?_ ?_); (· decide +kernel)) | ((with_reducible refine SH.br_NT ?_ ?_); (· decide +kernel))
  | ((with_reducible refine' SH.g_gtup ?ga ?gb ?gz); (case ga => walk_at "sq"); (case gb => rfl))
  | ((with_reducible refine' SH.g_lenT ?ga ?gz); (case ga => walk_at "sq"))
  | ((with_reducible refine' SH.g_lenL ?ga ?gz); (case ga => walk_at "sq"))
  | ((with_reducible refine SH.g_mkT (SH.sz rfl) ?_); intro _ _)
  | ((with_reducible refine SH.g_mkL (SH.sz rfl) ?_); intro _ _)
  | ((with_reducible refine SH.g_dnew ?_); intro _ _)
  | ((with_reducible refine' SH.g_tupL ?ga ?gz); (case ga => walk_at "sq"); intro _ _)
  | ((with_reducible refine' SH.g_lstL ?ga ?gz); (case ga => walk_at "sq"); intro _ _)
  | ((with_reducible refine' SH.g_lstT ?ga ?gz); (case ga => walk_at "sq"); intro _ _)
  | ((with_reducible refine' SH.g_dgR ?ga ?gb ?gz); (case ga => walk_at "hp"); (case gb => walk_at "dv"))
  | ((with_reducible refine' SH.g_fldR ?ga ?gb ?gc ?gd ?gz); (case ga => walk_at "hp"); (case gb => walk_at "cl"); (case gc => walk_at "na"); (case gd => walk_at "fv"))
  | ((with_reducible refine' SH.g_insR ?ga ?gb ?gz); (case ga => walk_at "hp"); (case gb => walk_at "fn"))
  | ((with_reducible refine' SH.g_setL ?ga ?gb ?gz); (case ga => walk_at "hp"); (case gb => rfl))
  | ((with_reducible refine SH.g_I ?_ ?_); (· walk_at "ci"))
  | ((with_reducible refine' SH.g_slL ?ga ?gz); (case ga => walk_at "sq"); intro _ _)
  | ((with_reducible refine' SH.g_cat ?ga ?gb ?gc ?gz); (case ga => walk_at "hp"); (case gb => walk_at "hp"); (case gc => walk_at "ls"); intro _ _))
/-- the side conditions of numbers: a divisor, a factor -/
local macro_rules | `(tactic| walk_at "ci") => `(tactic| first
  | (show _ ≠ _; omega) | (show _ < _; omega) | (constructor <;> omega) | (refine Or.inr ⟨?_, ?_⟩ <;> (show _ < _; omega)) | (refine Or.inl ⟨?_, ?_⟩ <;> (show _ < _; omega)) | (refine ⟨?_, ?_, ?_⟩ <;> decide))
local macro_rules | `(tactic| walk_at "ls") => `(tactic| first | (show _ ≤ _; exact Nat.le_trans (by assumption) (by decide)) | (show _ ≤ _; exact Nat.le_trans (by simp; omega) (by decide : 1000 ≤ sizeLine)))
local macro_rules | `(tactic| walk_at "dv") => `(tactic| rfl)
local macro_rules | `(tactic| walk_at "fv") => `(tactic| rfl)
local macro_rules | `(tactic| walk_at "fn") => `(tactic| rfl)
local macro_rules | `(tactic| walk_at "cl") => `(tactic| assumption)
local macro_rules | `(tactic| walk_at "na") => `(tactic| assumption)
local macro_rules | `(tactic| walk_at "go") => `(tactic| repeat walk_at "g2")
/-- a way is split -/
local macro_rules | `(tactic| walk_at "br") => `(tactic| with_reducible first
  | refine SH.br_d (fun _ => ?_) (fun _ => ?_) | refine SH.br_nd (fun _ => ?_) (fun _ => ?_) | refine SH.br_b (fun _ => ?_) (fun _ => ?_))
/-- all ways -/
local macro_rules | `(tactic| walk_at "all") => `(tactic| repeat' first | walk_at "g2" | (walk_at "br" <;> try (walk_at "no")))
/-- a truth value is the other -/
local macro_rules | `(tactic| walk_at "bq") => `(tactic| first | rfl | (simp_all; done) | (simp_all; omega) | (simp only [decide_eq_true_eq, decide_eq_false_iff_not, Bool.and_eq_true, Bool.or_eq_true] at *; omega))
/-- what was tracked is as it was -/
local macro_rules | `(tactic| walk_at "of") => `(tactic| first
  | assumption
  | exact SH.Off.refl _ _
  | (refine' SH.Off.new2 ?gx (by assumption); (case gx => walk_at "of"))
  | (refine' SH.Off.mut ?gx (by assumption); (case gx => walk_at "of"))
  | (refine' SH.Off.trans' ?gx (by assumption) ?gy; (case gy => (intro _ h; (first | exact h | (simp at h; done) | (simp at h ⊢; simp [h]; done)))); (case gx => walk_at "of")))
/-- the own season's dicts -/
local macro_rules | `(tactic| walk_at "dv") => `(tactic| with_reducible first
  | exact SH.bk_right | exact SH.bk_heard | exact SH.bk_landed | exact SH.bk_told | exact SH.bk_untold | exact SH.bk_unheard | exact SH.bk_present
  | exact SH.ok_own | exact SH.ok_now | exact SH.ok_boats | exact SH.ok_broken | exact SH.ok_beyond)
local macro_rules | `(tactic| walk_at "dw") => `(tactic| with_reducible first
  | exact SH.bp_right | exact SH.bp_heard | exact SH.bp_landed | exact SH.bp_told | exact SH.bp_untold | exact SH.bp_unheard | exact SH.bp_present
  | exact SH.op_now | exact SH.op_broken | exact SH.op_beyond)
local macro_rules | `(tactic| walk_at "g2") => `(tactic|
  ((with_reducible refine' SH.g_dpA ?ga ?gb ?gc ?gz); (case ga => walk_at "hp"); (case gb => walk_at "dw"); (case gc => exact SH.szk rfl); intro _ _ _))
local macro_rules | `(tactic| walk_at "sq") => `(tactic|
  ((refine' SH.seqT_put ?gx ?gy ?gz); (case gy => walk_at "hp"); (case gz => exact trivial); (case gx => walk_at "sq")))
local macro_rules | `(tactic| walk_at "g2") => `(tactic|
  ((with_reducible refine' SH.g_ixL ?ga ?gb ?gz); (case ga => walk_at "sq"); (case gb => first | rfl | (apply SH.atI_refs; assumption) | exact SH.atI_cons0)))
namespace SH
open PySem PySem.Spec PyProof.Rows L2
theorem filt_empty {c : V → Bool} {f : V → Int} : ∀ {l : List V}, ((l.filter c).map f).isEmpty = !l.any c
  | [] => rfl
  | x :: l => by
    rw [List.filter_cons, List.any_cons]
    cases h : c x with
    | true => simp
    | false => simpa using filt_empty (c := c) (f := f) (l := l)
theorem any_paired {α β : Type} {F : α → β → Prop} {c : α → Bool} {g : β → Bool} : ∀ {l : List α} {m : List β}, Paired F l m → (∀ a b, F a b → c a = g b) → l.any c = m.any g
  | _, _, .nil, _ => rfl
  | _, _, .cons r t, k => by rw [List.any_cons, List.any_cons, k _ _ r, any_paired t k]
/-- the truth that a boat's dict tells -/
def ovP : Option V → Option V → Bool
  | some (.int l), some (.int r) => decide (r < l)
  | _, _ => false
def ovO : Option HO → Bool
  | some (.dK kvs) => ovP (valV kvs (Sum.inr "landed")) (valV kvs (Sum.inr "right"))
  | _ => false
def overV (H : Hp) : V → Bool
  | .ref b => ovO (H b)
  | _ => false
theorem overV_at {H : Hp} {b : Addr} {t : Bt} {u h : Addr} (e : H b = some (.dK (boatK t u h))) : overV H (.ref b) = t.over := by
  have e2 : overV H (.ref b) = ovO (H b) := rfl
  rw [e2, e]
  have e3 : ovO (some (.dK (boatK t u h))) = ovP (valV (boatK t u h) (Sum.inr "landed")) (valV (boatK t u h) (Sum.inr "right")) := rfl
  rw [e3, bk_landed, bk_right]
  rfl
theorem paired_map {α β γ : Type} {F : γ → β → Prop} {g : α → γ} : ∀ {l : List α} {m : List β}, Paired (fun a b => F (g a) b) l m → Paired F (l.map g) m
  | _, _, .nil => .nil
  | _, _, .cons r t => .cons r (paired_map t)
def lateO (m : Int) : Option HO → Bool
  | some (.tup [.int a, .int _]) => decide (a ≤ m)
  | _ => false
def lateV (H : Hp) (m : Int) : V → Bool
  | .ref p => lateO m (H p)
  | _ => false
theorem lateV_at {H : Hp} {p : Addr} {a b m : Int} (e : H p = some (.tup [.int a, .int b])) : lateV H m (.ref p) = decide (a ≤ m) := by
  have e2 : lateV H m (.ref p) = lateO m (H p) := rfl
  rw [e2, e]
  rfl
theorem rows_mem {H : Hp} {vs : List V} {rs : List (Int × Int)} {v : V} (h : RowsR H vs rs) (hv : v ∈ vs) : ∃ r ∈ rs, RowR H v r := by
  obtain ⟨i, hi, e⟩ := List.mem_iff_getElem.mp hv
  obtain ⟨r, h1, h2⟩ := h.get (i := i) (v := v) (by rw [List.getElem?_eq_getElem hi, e])
  exact ⟨r, List.mem_of_getElem? h1, h2⟩
theorem isEmpty_append {α : Type} : ∀ (l m : List α), (l ++ m).isEmpty = (l.isEmpty && m.isEmpty)
  | [], _ => by simp
  | _ :: _, _ => rfl
theorem OwnAt.fresh' {S T : List Addr} {H H' : Hp} {d p : Addr} {bs : List Addr} {s : Sea} (x : OwnAt T H d bs s) (o : Off S H H') (h : H' p = none) : p ∉ T := fun z => by
  obtain ⟨o', e⟩ := x.live p z
  obtain ⟨o2, e2⟩ := o.live p o' e
  rw [h] at e2
  cases e2
theorem OwnAt.fresh {T : List Addr} {H H' : Hp} {d p : Addr} {bs : List Addr} {s : Sea} (x : OwnAt T H d bs s) (o : Off [] H H') (h : H' p = none) : p ∉ T := fun z => by
  obtain ⟨o', e⟩ := x.live p z
  obtain ⟨o2, e2⟩ := o.live p o' e
  rw [h] at e2
  cases e2
section
variable {T : List Addr} {H : Hp} {d ow bl be p : Addr} {bs : List Addr} {s : Sea} {br : Bool}
theorem OwnAt.inj (x : OwnAt T H d bs s) (h : H d = some (.dK (ownK ow s.now bl s.broken be))) {ow' bl' be' : Addr} (e : H d = some (.dK (ownK ow' s.now bl' s.broken be'))) : ow' = ow ∧ bl' = bl ∧ be' = be := by
  rw [h] at e
  have e := Option.some.inj e
  injection e with e
  unfold ownK at e
  injection e with e1 e
  injection e with e2 e
  injection e with e3 e
  injection e with e4 e
  injection e with e5 e
  injection e1 with _ e1; injection e3 with _ e3; injection e5 with _ e5
  injection e1 with e1; injection e3 with e3; injection e5 with e5
  exact ⟨e1.symm, e3.symm, e5.symm⟩
theorem OwnAt.putBey {H' : Hp} (x : OwnAt T H d bs s) (h : H d = some (.dK (ownK ow s.now bl s.broken be))) (h' : H' d = some (.dK (ownK ow s.now bl s.broken p))) (o : Off [d] H H') {y z : Bool} (hp : H p = some (.lst ((beyL y z).map V.str))) (hpT : p ∉ T) :
    OwnAt T H' d bs { s with bl := y, bm := z } := by
  have pd : p ≠ d := fun e => by rw [e, h] at hp; cases hp
  refine x.setD o fun ow' bl' be' e => ⟨p, ?_, o.at (by simpa using pd) hp, hpT⟩
  obtain ⟨rfl, rfl, rfl⟩ := x.inj h e
  exact h'
theorem OwnAt.putNow {H' : Hp} {n : Int} (x : OwnAt T H d bs s) (h : H d = some (.dK (ownK ow s.now bl s.broken be))) (h' : H' d = some (.dK (ownK ow n bl s.broken be))) (o : Off [d] H H') :
    OwnAt T H' d bs { s with now := n } := by
  have z : OwnAt T H' d bs { s with now := n, broken := s.broken, bl := s.bl, bm := s.bm } := by
    obtain ⟨ow2, p2, bl2, be2, h1, h2, h3, h4, h5, h6, h7, h8⟩ := x.ex
    refine x.setD o fun ow' bl' be' e => ⟨be, ?_, ?_, ?_⟩
    · obtain ⟨rfl, rfl, rfl⟩ := x.inj h e
      exact h'
    · obtain ⟨_, _, rfl⟩ := x.inj h h1
      exact o.at (by simpa using fun e => by rw [e, h] at h5; cases h5) h5
    · obtain ⟨_, _, rfl⟩ := x.inj h h1
      exact h8
  exact z
theorem OwnAt.putBr {H' : Hp} {b : Bool} (x : OwnAt T H d bs s) (h : H d = some (.dK (ownK ow s.now bl s.broken be))) (h' : H' d = some (.dK (ownK ow s.now bl b be))) (o : Off [d] H H') :
    OwnAt T H' d bs { s with broken := b } := by
  have z : OwnAt T H' d bs { s with now := s.now, broken := b, bl := s.bl, bm := s.bm } := by
    obtain ⟨ow2, p2, bl2, be2, h1, h2, h3, h4, h5, h6, h7, h8⟩ := x.ex
    refine x.setD o fun ow' bl' be' e => ⟨be, ?_, ?_, ?_⟩
    · obtain ⟨rfl, rfl, rfl⟩ := x.inj h e
      exact h'
    · obtain ⟨_, _, rfl⟩ := x.inj h h1
      exact o.at (by simpa using fun e => by rw [e, h] at h5; cases h5) h5
    · obtain ⟨_, _, rfl⟩ := x.inj h h1
      exact h8
  exact z
/-- a boat's numbers are put anew, its lists stay -/
theorem OwnAt.putN {H' : Hp} {b u k : Addr} {i : Nat} {t t' : Bt} (x : OwnAt T H d bs s) (hb : bs[i]? = some b) (ht : s.boats[i]? = some t) (h : H b = some (.dK (boatK t u k))) (hu : t'.untold = t.untold) (hk : t'.unheard = t.unheard)
    (h' : H' b = some (.dK (boatK t' u k))) (o : Off [b] H H') : OwnAt T H' d bs { s with boats := s.boats.set i t' } := by
  have hl := Paired.length x.boats
  obtain ⟨y, hy, u2, k2, q1, q2, q3, q4, q5, q6⟩ := paired_get (i := i) x.boats ht
  cases hb.symm.trans hy
  have e : boatK t u k = boatK t u2 k2 := by
    rw [h] at q1
    have e := Option.some.inj q1
    injection e
  have eu : some (V.ref u) = some (V.ref u2) := by rw [← bk_untold (t := t) (u := u) (h := k), e, bk_untold]
  have ek : some (V.ref k) = some (V.ref k2) := by rw [← bk_unheard (t := t) (u := u) (h := k), e, bk_unheard]
  cases eu; cases ek
  have nu : u ∉ [b] := fun z => by
    obtain ⟨vs, e, _⟩ := q2
    rw [List.mem_singleton.mp z, h] at e
    cases e
  have nk : k ∉ [b] := fun z => by
    obtain ⟨vs, e, _⟩ := q3
    rw [List.mem_singleton.mp z, h] at e
    cases e
  exact x.setB hb o h' (by rw [hu]; exact q2.off o nu) (by rw [hk]; exact q3.off o nk) q4 q5
end
theorem map_upto {α : Type} {z : α → α} {l : List α} {i : Nat} {t : α} (h : l[i]? = some t) :
    ((l.take i).map z ++ l.drop i)[i]? = some t ∧ ((l.take i).map z ++ l.drop i).set i (z t) = (l.take (i + 1)).map z ++ l.drop (i + 1) := by
  have hi : i < l.length := (List.getElem?_eq_some_iff.mp h).1
  have e : l[i] = t := (List.getElem?_eq_some_iff.mp h).2
  have hl : ((l.take i).map z).length = i := by rw [List.length_map, List.length_take]; omega
  have ed : l.drop i = t :: l.drop (i + 1) := by rw [List.drop_eq_getElem_cons hi, e]
  constructor
  · rw [List.getElem?_append_right (by omega), hl, ed, Nat.sub_self]; rfl
  · rw [List.set_append_right _ _ (by omega), hl, Nat.sub_self, ed, List.set_cons_zero, List.take_add_one, h, List.map_append, List.append_assoc]
    rfl
theorem cutV_tail {v : V} {vs : List V} : cutV (v :: vs) (some 1) none = vs := by
  simp [cutV, HT.sIx]
def spDo (K : PySem.W.Frag) : Sp := fun vs H Q _ => ∃ d v T bs s st c, vs = [.ref d, v] ∧ OwnAt T H d bs s ∧ StepAt K H v st ∧ st.ok bs.length ∧ s.Good c ∧ c ≤ 100000 ∧ s.can st = true ∧ ∀ H', OwnAt T H' d bs (s.do' st) → Off (d :: bs) H H' → Q .non H'
section
variable {P : Program} {w : World} {K : PySem.W.Frag} {mg : Str → Option Value} {base : Heap}
theorem do_fin {T0 : List Addr} {H : Hp} {Q R : VK} {Bk Ct : L2.St → Hp → Prop} {d bl : Addr} {bs : List Addr} {s1 : Sea} {a1 a2 a4 a5 a6 a7 a8 a9 a10 : Option V} (ho : OwnAt T0 H d bs s1) (hl : H bl = some (.lst (bs.map V.ref))) (h5 : bs.length ≤ 5)
    (q : ∀ H', OwnAt T0 H' d bs s1.look → Off [d] H H' → Q .non H') :
    tIfS (tTest (tOp (rNeD K) (tLc (iList K (tVar 3)) (gName 9) (tTest (tOp (rI0 fun i j => V.bl (decide (j < i))) (tDGet (tVar 9) (tC (V.str "landed"))) (tDGet (tVar 9) (tC (V.str "right"))))) (tC (V.int 1)) (List.map (fun x => x.snd) [(("one" : Str), 9)])) (tLst tNil)))
      (sDPut (tVar 0) (tC (V.str "broken")) (tC (V.bl true))) tNext ⟨fun _ H' => Q .non H', R, Bk, Ct⟩ [some (.ref d), a1, a2, some (.ref bl), a4, a5, a6, a7, a8, a9, a10] H := by
  walk_at "go"
  refine lcL_pure (fun _ => .int 1) (overV H) (.of hl) (by rw [List.length_map, sizeLine_eq]; omega) (fun _ => rfl) ?_ ?_ ?_
  · intro x H1 hx o1 M kk
    obtain ⟨b, hb, rfl⟩ := List.mem_map.mp hx
    obtain ⟨i, hi, rfl⟩ := List.mem_iff_getElem.mp hb
    obtain ⟨b', t, u, k, f1, f2, f3, _⟩ := boat_at ho.boats hi
    rw [List.getElem?_eq_getElem hi] at f1
    cases f1
    have j1 := o1.at nin_nil f3
    rw [overV_at f3] at kk
    walk_at "go"
    exact kk _ (.refl _ _)
  · intro x H1 hx hc1 o1 M kk
    walk_at "go"
    exact kk _ (.refl _ _)
  · intro D H1 hD o1 e4
    have e5 : ((bs.map V.ref).filter (overV H)).map (fun _ => V.int 1) = (((bs.map V.ref).filter (overV H)).map (fun _ => (1 : Int))).map V.int := by rw [List.map_map]; rfl
    rw [e5] at e4
    obtain ⟨ow, p, bl2, be, h1, h2, h3, h4, h5, h6, h7, h8⟩ := ho.ex
    walk_at "go"
    rename_i p0 hp0
    have i1 : (upd H1 p0 (.lst [])) d = _ := upd_new (o1.at nin_nil h1) hp0
    have oP : Off [] H (upd H1 p0 (.lst [])) := o1.new2 hp0
    have ho2 := ho.off oP (by simp)
    refine g_neInts (upd_new e4 hp0) upd_same ?_
    generalize (upd H1 p0 (.lst [])) = H3 at *
    rw [filt_empty, Bool.not_not, any_paired (paired_map (F := fun v t => overV H v = t.over) (g := V.ref) (Paired.mapP ho.boats fun a t z => by obtain ⟨u, k, z, _⟩ := z; exact overV_at z)) (fun _ _ z => z)]
    walk_at "go"
    refine br_b (fun b1 => ?_) (fun b1 => ?_)
    · walk_at "go"
      rename_i H5 l1 l2
      refine q _ ?_ ((oP.mono (by simp)).trans l2)
      have e : s1.look = { s1 with broken := true } := by
        unfold Sea.look
        rw [show s1.boats.any Bt.over = true from b1, Bool.or_true]
      rw [e]
      exact ho2.putBr i1 l1 l2
    · walk_at "go"
      refine q _ ?_ (oP.mono (by simp))
      have e : s1.look = s1 := by
        unfold Sea.look
        rw [show s1.boats.any Bt.over = false from b1, Bool.or_false]
      rw [e]
      exact ho2
def Sea.pre (s : Sea) : Stp → Sea
  | .tick => s
  | .land b n => { s with boats := s.boats.modify b fun t => t.land s.now n, bm := s.bm || (s.boats[b]?).any fun t => decide (s.most < t.present + n) }
  | .tell b => { s with boats := s.boats.modify b Bt.tell }
  | .hear b => { s with boats := s.boats.modify b Bt.hear }
  | .trade f t n => { s with boats := (s.boats.modify f fun x => x.change s.now (-n)).modify t fun x => x.change s.now n }
def Sea.half (s : Sea) (f t : Nat) (n : Int) : Nat → Sea
  | 0 => s
  | 1 => { s with boats := s.boats.modify f fun x => x.change s.now (-n) }
  | _ => { s with boats := (s.boats.modify f fun x => x.change s.now (-n)).modify t fun x => x.change s.now n }
theorem half_ub {s : Sea} {c : Nat} (g : s.Good c) (f t : Nat) (n : Int) (i : Nat) : ∀ x ∈ (s.half f t n i).boats, x.untold.length ≤ 2 * c + 2 ∧ x.unheard.length ≤ 2 * c + 2 := by
  have mb : ∀ {l : List Bt} {i : Nat} {m : Int} {k : Nat}, (∀ t ∈ l, t.untold.length ≤ k ∧ t.unheard.length ≤ k) → ∀ t ∈ l.modify i (fun x => x.change s.now m), t.untold.length ≤ k + 1 ∧ t.unheard.length ≤ k + 1 := fun {l i m k} h1 t ht => by
    rcases mem_modify ht with ht | ⟨y, hy, rfl⟩
    · have := h1 t ht; omega
    · have a := h1 y hy
      simp only [Bt.change, List.length_append, List.length_singleton]
      omega
  intro x hx
  match i, hx with
  | 0, hx => have := g.ub x hx; omega
  | 1, hx => have := mb g.ub x hx; omega
  | _ + 2, hx => have := mb (mb g.ub) x hx; omega
theorem ok_law_n_do (T : Txt P w K mg) : DefOk P w K mg base "_law_n_do" 1 ["season", "step"] (spDo K) := by
  refine T.d_law_n_do.ok sc_law_n_do (fun _ _ _ _ _ _ us hl => match us, hl with | [_, _], _ => rfl) (fun vs H Q E h => ?_) (fun f cdv A outer s H vs Q E hr h => ?_)
  · obtain ⟨d, v, T, bs, s, st, c, rfl, _⟩ := h
    rfl
  · obtain ⟨d, v, T0, bs, s, st, c, rfl, ho, ⟨p, rfl, hst⟩, hok, hg, hc, hcan, q⟩ := h
    have B := T.blt
    have hu := hu_of hr
    refine ⟨_, (pss_cons (ps_asg (pe_tup (pa_cons (pe_dget hu (pv 0) pe_str (fun _ _ => rfl)) (pa_cons (pe_dget hu (pv 0) pe_str (fun _ _ => rfl)) pa_nil))) (pg_tupK (K := K) (n := 2) rfl rfl (pgs_cons (pg_name (i := 2) sc_law_n_do.nd rfl (by first | exact Or.inl rfl | exact Or.inr rfl)) (pgs_cons (pg_name (i := 3) sc_law_n_do.nd rfl (by first | exact Or.inl rfl | exact Or.inr rfl)) pgs_nil))))
  (pss_cons (ps_set (i := 4) sc_law_n_do.nd rfl (by first | exact Or.inl rfl | exact Or.inr rfl) (pe_dget hu (pv 0) pe_str (fun _ _ => rfl)))
  (pss_cons (ps_if (pt_cmpR op_eq (pe_ix (ix_tupK (K := K) rfl) (pv 1) pe_int (fun _ _ => rfl)) pe_str (nomark _))
    (pss_cons (ps_set (i := 5) sc_law_n_do.nd rfl (by first | exact Or.inl rfl | exact Or.inr rfl) (pe_lst pa_nil))
  (pss_cons (ps_for (passes_of rfl) rfl (pi_listK (K := K) rfl (pv 3)) (pg_name (i := 6) sc_law_n_do.nd rfl (by first | exact Or.inl rfl | exact Or.inr rfl))
    (pss_one (ps_set (i := 5) sc_law_n_do.nd rfl (by first | exact Or.inl rfl | exact Or.inr rfl) (pe_op op_cat (pv 5) (pe_lc (own := [("row", 10)]) rfl sc_law_n_do.nd (pi_listK (K := K) rfl (pe_op op_cat (pe_dget hu (pv 6) pe_str (fun _ _ => rfl)) (pe_dget hu (pv 6) pe_str (fun _ _ => rfl)))) (blkOk_by (own := [("row", 10)]) (N := ["season", "step", "now", "boats", "over", "late", "boat", "who", "amount", "one", "row"]) (sc := defScope s_law_n_do) (by decide +kernel)) (fun _ _ _ _ _ => (pg_name (i := 10) sc_law_n_do.nd rfl (by first | exact Or.inl rfl | exact Or.inr rfl))) (fun _ _ _ _ _ => (pts_one (pt_cmpR op_le (pe_ix (ix_tupK (K := K) rfl) (pv 10) pe_int (fun _ _ => rfl)) (pe_op op_sub (pv 2) (pe_ix (ix_listK (K := K) rfl) (pe_dget hu (pv 0) pe_str (fun _ _ => rfl)) pe_int (fun _ _ => rfl))) (nomark _)))) (fun _ _ _ _ _ => pe_int))))))
  (pss_cut (ps_if (PW.pt (pw_and (pt_cmpR (op_neDK (K := K) rfl hr.units) (pv 5) (pe_lst pa_nil) (nomark _)) (pw_and1 (pt_cmpR (op_notIn_seqK (K := K) rfl) pe_str (pv 4) (by rfl)))))
    (pss_one (ps_dput hu (pv 0) pe_str (pe_callB (cr_sortedSK (K := K) rfl) (by rfl) B.b_sorted (by decide +kernel) (pa_cons (pe_op op_cat (pv 4) (pe_lst (pa_cons pe_str pa_nil))) pa_nil)) rfl))
    pss_nil)
  (pss_cons (ps_dput hu (pv 0) pe_str (pe_op op_add (pv 2) pe_int) rfl)
  (pss_cons (ps_for (passes_of rfl) rfl (pi_listK (K := K) rfl (pv 3)) (pg_name (i := 6) sc_law_n_do.nd rfl (by first | exact Or.inl rfl | exact Or.inr rfl))
    (pss_one (ps_dput hu (pv 6) pe_str pe_int rfl)))
  (pss_one ps_retN))))))
    pss_nil)
  (pss_cons (ps_set (i := 6) sc_law_n_do.nd rfl (by first | exact Or.inl rfl | exact Or.inr rfl) (pe_ix (ix_listK (K := K) rfl) (pv 3) (pe_ix (ix_tupK (K := K) rfl) (pv 1) pe_int (fun _ _ => rfl)) (fun _ _ => rfl)))
  (pss_cut (ps_if (pt_cmpR op_eq (pe_ix (ix_tupK (K := K) rfl) (pv 1) pe_int (fun _ _ => rfl)) pe_str (nomark _))
    (pss_cons (ps_dput hu (pv 6) pe_str (pe_op op_add (pe_dget hu (pv 6) pe_str (fun _ _ => rfl)) (pe_ix (ix_tupK (K := K) rfl) (pv 1) pe_int (fun _ _ => rfl))) rfl)
  (pss_cons (ps_dput hu (pv 6) pe_str (pe_op op_add (pe_dget hu (pv 6) pe_str (fun _ _ => rfl)) (pe_ix (ix_tupK (K := K) rfl) (pv 1) pe_int (fun _ _ => rfl))) rfl)
  (pss_cons (ps_dput hu (pv 6) pe_str (pe_op op_cat (pe_dget hu (pv 6) pe_str (fun _ _ => rfl)) (pe_lst (pa_cons (pe_tup (pa_cons (pv 2) (pa_cons (pe_ix (ix_tupK (K := K) rfl) (pv 1) pe_int (fun _ _ => rfl)) pa_nil))) pa_nil))) rfl)
  (pss_one (ps_if (PW.pt (pw_and (pt_cmpR op_gt (pe_dget hu (pv 6) pe_str (fun _ _ => rfl)) (pe_ix (ix_listK (K := K) rfl) (pe_dget hu (pv 0) pe_str (fun _ _ => rfl)) pe_int (fun _ _ => rfl)) (nomark _)) (pw_and1 (pt_cmpR (op_notIn_seqK (K := K) rfl) pe_str (pv 4) (by rfl)))))
    (pss_one (ps_dput hu (pv 0) pe_str (pe_callB (cr_sortedSK (K := K) rfl) (by rfl) B.b_sorted (by decide +kernel) (pa_cons (pe_op op_cat (pv 4) (pe_lst (pa_cons pe_str pa_nil))) pa_nil)) rfl))
    pss_nil)))))
    (pss_one (ps_if (pt_cmpR op_eq (pe_ix (ix_tupK (K := K) rfl) (pv 1) pe_int (fun _ _ => rfl)) pe_str (nomark _))
    (pss_cons (ps_dput hu (pv 6) pe_str (pe_op op_add (pe_dget hu (pv 6) pe_str (fun _ _ => rfl)) (pe_ix (ix_tupK (K := K) rfl) (pe_ix (ix_listK (K := K) rfl) (pe_dget hu (pv 6) pe_str (fun _ _ => rfl)) pe_int (fun _ _ => rfl)) pe_int (fun _ _ => rfl))) rfl)
  (pss_one (ps_dput hu (pv 6) pe_str (pe_slice (sl_listK (K := K) rfl) (pe_dget hu (pv 6) pe_str (fun _ _ => rfl)) (po_some pe_int) po_none) rfl)))
    (pss_one (ps_if (pt_cmpR op_eq (pe_ix (ix_tupK (K := K) rfl) (pv 1) pe_int (fun _ _ => rfl)) pe_str (nomark _))
    (pss_cons (ps_dput hu (pv 6) pe_str (pe_op op_add (pe_dget hu (pv 6) pe_str (fun _ _ => rfl)) (pe_ix (ix_tupK (K := K) rfl) (pe_ix (ix_listK (K := K) rfl) (pe_dget hu (pv 6) pe_str (fun _ _ => rfl)) pe_int (fun _ _ => rfl)) pe_int (fun _ _ => rfl))) rfl)
  (pss_one (ps_dput hu (pv 6) pe_str (pe_slice (sl_listK (K := K) rfl) (pe_dget hu (pv 6) pe_str (fun _ _ => rfl)) (po_some pe_int) po_none) rfl)))
    (pss_one (ps_for (passes_of rfl) rfl (pi_listK (K := K) rfl (pe_lst (pa_cons (pe_tup (pa_cons (pv 6) (pa_cons (pe_un un_neg (pe_ix (ix_tupK (K := K) rfl) (pv 1) pe_int (fun _ _ => rfl))) pa_nil))) (pa_cons (pe_tup (pa_cons (pe_ix (ix_listK (K := K) rfl) (pv 3) (pe_ix (ix_tupK (K := K) rfl) (pv 1) pe_int (fun _ _ => rfl)) (fun _ _ => rfl)) (pa_cons (pe_ix (ix_tupK (K := K) rfl) (pv 1) pe_int (fun _ _ => rfl)) pa_nil))) pa_nil)))) (pg_tupK (K := K) (n := 2) rfl rfl (pgs_cons (pg_name (i := 7) sc_law_n_do.nd rfl (by first | exact Or.inl rfl | exact Or.inr rfl)) (pgs_cons (pg_name (i := 8) sc_law_n_do.nd rfl (by first | exact Or.inl rfl | exact Or.inr rfl)) pgs_nil)))
    (pss_cons (ps_dput hu (pv 7) pe_str (pe_op op_add (pe_dget hu (pv 7) pe_str (fun _ _ => rfl)) (pv 8)) rfl)
  (pss_one (ps_dput hu (pv 7) pe_str (pe_op op_cat (pe_dget hu (pv 7) pe_str (fun _ _ => rfl)) (pe_lst (pa_cons (pe_tup (pa_cons (pv 2) (pa_cons (pv 8) pa_nil))) pa_nil))) rfl))))))))))
  (pss_one (ps_if (pt_cmpR (op_neDK (K := K) rfl hr.units) (pe_lc (own := [("one", 9)]) rfl sc_law_n_do.nd (pi_listK (K := K) rfl (pv 3)) (blkOk_by (own := [("one", 9)]) (N := ["season", "step", "now", "boats", "over", "late", "boat", "who", "amount", "one", "row"]) (sc := defScope s_law_n_do) (by decide +kernel)) (fun _ _ _ _ _ => (pg_name (i := 9) sc_law_n_do.nd rfl (by first | exact Or.inl rfl | exact Or.inr rfl))) (fun _ _ _ _ _ => (pts_one (pt_cmpR op_gt (pe_dget hu (pv 9) pe_str (fun _ _ => rfl)) (pe_dget hu (pv 9) pe_str (fun _ _ => rfl)) (nomark _)))) (fun _ _ _ _ _ => pe_int)) (pe_lst pa_nil) (nomark _))
    (pss_one (ps_dput hu (pv 0) pe_str pe_bl rfl))
    pss_nil))))))), ?_⟩
    have ho' := ho
    obtain ⟨⟨ow, pp, bl, be, h1, h2, h3, h4, h5, h6, h7, h8⟩, hbs, nd, dT, lv⟩ := ho
    by_cases htick : st = .tick
    · subst htick
      have hst' : SqT K H p [.str "tick"] := hst
      walk_at "go"
      rename_i p0 hp0 pl hpl
      have hlen := Paired.length hbs
      have hb5 : bs.length ≤ 5 := by have := hg.len; have := hg.plan.n1; omega
      refine forL_mk (fun i σ H' => ∃ pl ns bx, σ = [some (.ref d), some (.ref p), some (.int s.now), some (.ref bl), some (.ref be), some (.ref pl), bx, none, none, none, none] ∧ H' pl = some (.lst (ns.map V.int)) ∧
        ns.isEmpty = !((s.boats.take i).any fun t => t.isLate (s.now - s.late)) ∧ ns.length ≤ i * 400000 ∧ Off [] H H') (by walk_at "sq") ⟨pl, [], none, rfl, upd_same, by simp, by simp, (Off.new hp0).new2 hpl⟩ ?_ ?_ ?_
      · rintro i σ H' hi ⟨pl, ns, bx, _, _, _, _, o⟩
        exact o.seqL nin_nil (.of h4)
      · rintro i x σ H' hi ⟨pl, ns, bx, rfl, e1, e2, e3, o⟩
        obtain ⟨b, hb, rfl⟩ : ∃ b, bs[i]? = some b ∧ V.ref b = x := by simpa using hi
        have hib : i < bs.length := (List.getElem?_eq_some_iff.mp hb).1
        obtain ⟨b', t, u, k, f1, f2, f3, f4, f5, _⟩ := boat_at hbs hib
        cases hb.symm.trans f1
        obtain ⟨us, g1, g2⟩ := f4.off o nin_nil
        obtain ⟨ks, g3, g4⟩ := f5.off o nin_nil
        have g5 := o.at nin_nil f3
        have hub := hg.ub t (List.mem_of_getElem? f2)
        have hlu := g2.length
        have hlk := g4.length
        have hz1 : us.length + ks.length ≤ sizeLine := by rw [sizeLine_eq]; omega
        walk_at "go"
        rename_i q1 hq1
        have g6 : RowsR (upd H' q1 (.lst (us ++ ks))) (us ++ ks) (t.untold ++ t.unheard) := (g2.append g4).off (S := []) (.new hq1)
        have oA : Off [] H (upd H' q1 (.lst (us ++ ks))) := o.new2 hq1
        refine lcL_pure (fun _ => .int 1) (lateV H' (s.now - s.late)) (.of upd_same) (by rw [List.length_append, sizeLine_eq]; omega) (fun _ => rfl) ?_ ?_ ?_
        · intro x H1 hx o1 M kk
          obtain ⟨r, hr1, hr2⟩ := rows_mem (g2.append g4) hx
          obtain ⟨pr, rfl, hp⟩ := hr2
          have j1 := (oA.trans o1).at nin_nil h1
          have j2 := (oA.trans o1).at nin_nil h2
          have j3 : H1 pr = some (.tup [.int r.1, .int r.2]) := o1.tups _ _ (upd_new hp hq1)
          walk_at "go"
          rw [lateV_at hp] at kk
          exact kk _ (.refl _ _)
        · intro x H1 hx hc1 o1 M kk
          walk_at "go"
          exact kk _ (.refl _ _)
        · intro D H1 hD o1 e4
          have j1 : H1 pl = some (.lst (ns.map V.int)) := o1.at nin_nil (upd_new e1 hq1)
          have e5 : ((us ++ ks).filter (lateV H' (s.now - s.late))).map (fun _ => V.int 1) = (((us ++ ks).filter (lateV H' (s.now - s.late))).map (fun _ => (1 : Int))).map V.int := by rw [List.map_map]; rfl
          have e6 : ((us ++ ks).filter (lateV H' (s.now - s.late))).length ≤ us.length + ks.length := by
            have := List.length_filter_le (lateV H' (s.now - s.late)) (us ++ ks)
            rwa [List.length_append] at this
          rw [e5] at e4
          have hz2 : (ns.map V.int).length + ((((us ++ ks).filter (lateV H' (s.now - s.late))).map (fun _ => (1 : Int))).map V.int).length ≤ sizeLine := by
            rw [List.length_map, List.length_map, List.length_map, sizeLine_eq]; omega
          refine g_cat j1 e4 hz2 fun pn hpn => ?_
          walk_at "go"
          refine ⟨pn, ns ++ ((us ++ ks).filter (lateV H' (s.now - s.late))).map (fun _ => (1 : Int)), _, rfl, by rw [List.map_append]; exact upd_same, ?_, ?_, ?_⟩
          · rw [isEmpty_append, e2, filt_empty]
            have := any_paired (g2.append g4) (c := lateV H' (s.now - s.late)) (g := fun r => decide (r.1 ≤ s.now - s.late)) (fun v r z => by obtain ⟨pr, rfl, hp⟩ := z; exact lateV_at hp)
            rw [this, List.take_add_one, f2]
            simp [Bt.isLate]
          · rw [List.length_append, List.length_map]; omega
          · exact ((oA.trans o1).new2 hpn)
      · rintro σ H' ⟨pl, ns, bx, rfl, e1, e2, e3, o⟩
        have hall : s.boats.take (bs.map V.ref).length = s.boats := by rw [List.length_map, hlen, List.take_length]
        rw [hall] at e2
        have j1 := o.at nin_nil h1
        have j5 := o.at nin_nil h5
        have ho1 : OwnAt T0 H' d bs s := ho'.off o (by simp)
        refine g_seq (g_cut (fun σ H' => ∃ pl bx, σ = [some (.ref d), some (.ref p), some (.int s.now), some (.ref bl), some (.ref be), some (.ref pl), bx, none, none, none, none] ∧
          OwnAt T0 H' d bs { s with bl := s.bl || s.boats.any fun t => t.isLate (s.now - s.late) } ∧ Off [d] H H') ?_ ?_)
        · walk_at "go"
          rename_i pe hpe
          have i1 : (upd H' pe (.lst [])) d = _ := upd_new j1 hpe
          have i5 : (upd H' pe (.lst [])) be = _ := upd_new j5 hpe
          have oP : Off [] H (upd H' pe (.lst [])) := o.new2 hpe
          have ho2 : OwnAt T0 (upd H' pe (.lst [])) d bs s := ho'.off oP (by simp)
          have i6 : (upd H' pe (.lst [])) pl = _ := upd_new e1 hpe
          have i7 : (upd H' pe (.lst [])) pe = _ := upd_same
          generalize (upd H' pe (.lst [])) = H3 at *
          refine g_neInts i6 i7 ?_
          walk_at "go"
          rw [e2, Bool.not_not]
          refine br_b (fun b1 => ?_) (fun b1 => ?_)
          · walk_at "go"
            refine g_notL i5 ?_
            walk_at "go"
            refine br_nb (fun b2 => ?_) (fun b2 => ?_)
            · walk_at "go"
              rename_i p3 hp3
              refine g_catBey (upd_new i5 hp3) upd_same fun p4 hp4 => ?_
              walk_at "go"
              refine g_sortL upd_same b2 fun p5 hp5 => ?_
              have o3 : Off [] H3 (upd (upd (upd H3 p3 (.lst [.str "late"])) p4 (.lst ((beyL s.bl s.bm).map V.str ++ [.str "late"]))) p5 (.lst ((beyL true s.bm).map V.str))) := ((Off.new hp3).new2 hp4).new2 hp5
              have i8 := o3.at nin_nil i1
              have i9 : (upd (upd (upd H3 p3 (.lst [.str "late"])) p4 (.lst ((beyL s.bl s.bm).map V.str ++ [.str "late"]))) p5 (.lst ((beyL true s.bm).map V.str))) p5 = _ := upd_same
              have t5 : p5 ∉ T0 := ho2.fresh ((Off.new hp3).new2 hp4) hp5
              generalize (upd (upd (upd H3 p3 (.lst [.str "late"])) p4 (.lst ((beyL s.bl s.bm).map V.str ++ [.str "late"]))) p5 (.lst ((beyL true s.bm).map V.str))) = H4 at *
              walk_at "go"
              rename_i H5 l1 l2
              refine ⟨_, _, rfl, ?_, ?_⟩
              · rw [b1, Bool.or_true]
                exact (ho2.off o3 (by simp)).putBey i8 l1 l2 i9 t5
              · exact ((oP.trans o3).mono (by simp)).trans l2
            · walk_at "go"
              refine ⟨_, _, rfl, ?_, oP.mono (by simp)⟩
              have e9 : (s.bl || s.boats.any fun t => t.isLate (s.now - s.late)) = s.bl := by rw [b2, Bool.true_or]
              rw [e9]
              exact ho2
          · walk_at "go"
            refine ⟨_, _, rfl, ?_, oP.mono (by simp)⟩
            have e9 : (s.bl || s.boats.any fun t => t.isLate (s.now - s.late)) = s.bl := by rw [b1, Bool.or_false]
            rw [e9]
            exact ho2
        · rintro σ H2 ⟨pl, bx, rfl, ho2, o2⟩
          obtain ⟨ow3, pp3, bl3, be3, k1, k2, k3, k4, k5, k6, k7, k8⟩ := ho2.ex
          have j4 := o2.at (a := bl) (by simpa using fun z => by rw [z, h1] at h4; cases h4) h4
          walk_at "go"
          rename_i H3 l1 l2
          have hq := ho2.putNow k1 l1 l2
          have oq := o2.trans l2
          have jq := l2.at (a := bl) (by simpa using fun z => by rw [z, h1] at h4; cases h4) j4
          have oS : ∀ a ∈ [d], a ∈ d :: bs := by simp
          refine forL_mk (fun i σ H' => ∃ bx, σ = [some (.ref d), some (.ref p), some (.int s.now), some (.ref bl), some (.ref be), some (.ref pl), bx, none, none, none, none] ∧
            OwnAt T0 H' d bs { s with now := s.now + 1, bl := s.bl || (s.boats.any fun t => t.isLate (s.now - s.late)), boats := (s.boats.take i).map (fun t => { t with present := 0 }) ++ s.boats.drop i } ∧ Off (d :: bs) H H' ∧ H' bl = some (.lst (bs.map V.ref))) (.of jq)
            ⟨bx, rfl, hq, oq.mono oS, jq⟩ ?_ ?_ ?_
          · rintro i σ H' hi ⟨bx, _, _, _, j⟩
            exact .of j
          · rintro i x σ H' hi ⟨bx, rfl, hx, ox, jx⟩
            obtain ⟨b, hb, rfl⟩ : ∃ b, bs[i]? = some b ∧ V.ref b = x := by simpa using hi
            have hib : i < bs.length := (List.getElem?_eq_some_iff.mp hb).1
            have hit : s.boats[i]? = some (s.boats[i]'(by omega)) := List.getElem?_eq_getElem _
            obtain ⟨m1, m2⟩ := map_upto (z := fun t : Bt => { t with present := 0 }) hit
            obtain ⟨b', t, u, k, f1, f2, f3, _⟩ := boat_at hx.boats hib
            cases hb.symm.trans f1
            cases m1.symm.trans f2
            walk_at "go"
            rename_i H5 l1 l2
            have hy := hx.putN (t' := { (s.boats[i]'(by omega)) with present := 0 }) hb f2 f3 rfl rfl l1 l2
            refine ⟨_, rfl, ?_, ox.trans (l2.mono (by simp [List.mem_of_getElem? hb])), l2.at (by simpa using fun z => by rw [z, f3] at jx; cases jx) jx⟩
            rw [m2] at hy
            exact hy
          · rintro σ H' ⟨bx, rfl, hx, ox, jx⟩
            walk_at "go"
            refine q _ ?_ ox
            rw [List.length_map, hlen, List.take_length, List.drop_length, List.append_nil] at hx
            exact hx
    · cases st with
      | tick => exact absurd rfl htick
      | land b n =>
        have hst' : SqT K H p [.str "land", .int b, .int n] := hst
        obtain ⟨ba, t, u, k, e1, e2, e3, e4, e5, q4, q5, q6⟩ := boat_at hbs hok.1
        have hlen := Paired.length hbs
        have hb5 : bs.length ≤ 5 := by have := hg.len; have := hg.plan.n1; omega
        obtain ⟨us, g1, g2⟩ := e4
        obtain ⟨ks, g3, g4⟩ := e5
        have nu : u ≠ ba := fun z => by rw [z, e3] at g1; cases g1
        have nk : k ≠ ba := fun z => by rw [z, e3] at g3; cases g3
        have nd1 : d ≠ ba := fun z => (List.nodup_cons.mp nd).1 (z ▸ List.mem_of_getElem? e1)
        have no : ow ≠ ba := fun z => by rw [z, e3] at h2; cases h2
        have nbe : be ≠ ba := fun z => by rw [z, e3] at h5; cases h5
        have nbl : bl ≠ ba := fun z => by rw [z, e3] at h4; cases h4
        have hub := hg.ub t (List.mem_of_getElem? e2)
        have hlu := g2.length
        have hz : us.length + 1 ≤ 1000000 := by omega
        walk_at "go"
        refine g_cut (fun σ H' => ∃ a5 a6 a7 a8, σ = [some (.ref d), some (.ref p), some (.int s.now), some (.ref bl), some (.ref be), a5, a6, a7, a8, none, none] ∧ OwnAt T0 H' d bs (s.pre (.land b n)) ∧ Off (d :: bs) H H' ∧ H' bl = some (.lst (bs.map V.ref))) ?_ ?_
        · walk_at "go"
          rename_i p0 hp0 H1 l1 m1 H2 l2 m2 p1 hp1 p2 hp2 p3 hp3 H3 l3 m3
          have w1 : H3 p1 = some (.tup [.int s.now, .int n]) := m3.tups _ _ (upd_new (upd_new upd_same hp2) hp3)
          have w2 : H3 p3 = some (.lst (us ++ [.ref p1])) := m3.at (by simpa using fun z => by have h : upd (upd H2 p1 (.tup [.int s.now, .int n])) p2 (.lst [.ref p1]) ba = some _ := upd_new (upd_new l2 hp1) hp2; rw [← z, hp3] at h; cases h) upd_same
          have wd : H3 d = some (.dK (ownK ow s.now bl s.broken be)) := by walk_at "hp"
          have wbe : H3 be = some (.lst ((beyL s.bl s.bm).map V.str)) := by walk_at "hp"
          have wbl : H3 bl = some (.lst (bs.map V.ref)) := by walk_at "hp"
          have oN2 : Off [ba] H (upd (upd H2 p1 (.tup [.int s.now, .int n])) p2 (.lst [.ref p1])) := by walk_at "of"
          have t3 : p3 ∉ T0 := ho'.fresh' oN2 hp3
          have oN : Off [ba] H H3 := (oN2.new2 hp3).trans m3
          have hx : OwnAt T0 H3 d bs { s with boats := s.boats.set b (t.land s.now n) } := ho'.setB e1 oN (t' := t.land s.now n) l3 ⟨_, w2, (g2.off oN).append (.cons ⟨p1, rfl, w1⟩ .nil)⟩ ⟨ks, oN.at (by simpa using nk) g3, g4.off oN⟩ t3 q5
          have e8 : s.boats.set b (t.land s.now n) = s.boats.modify b (fun t => t.land s.now n) := (modify_set (f := fun t => t.land s.now n) e2).symm
          rw [e8] at hx
          have oN' : Off (d :: bs) H H3 := oN.mono (by simp [List.mem_of_getElem? e1])
          clear oN2 m3 hp3 hp2 hp1 m2 m1
          have e10 : s.pre (.land b n) = { s with boats := s.boats.modify b (fun t => t.land s.now n), bm := s.bm || decide (s.most < t.present + n) } := by
            unfold Sea.pre
            simp [e2]
          rw [e10]
          refine br_d (fun b1 => ?_) (fun b1 => ?_)
          · have b1 : s.most < t.present + n := b1
            walk_at "go"
            refine g_notM wbe ?_
            walk_at "go"
            refine br_nb (fun b2 => ?_) (fun b2 => ?_)
            · walk_at "go"
              rename_i p4 hp4
              refine g_catBey (upd_new wbe hp4) upd_same fun p5 hp5 => ?_
              walk_at "go"
              refine g_sortM upd_same b2 fun p6 hp6 => ?_
              have o3 : Off [] H3 (upd (upd (upd H3 p4 (.lst [.str "most"])) p5 (.lst ((beyL s.bl s.bm).map V.str ++ [.str "most"]))) p6 (.lst ((beyL s.bl true).map V.str))) := ((Off.new hp4).new2 hp5).new2 hp6
              have i8 := o3.at nin_nil wd
              have i7 := o3.at nin_nil wbl
              have i9 : (upd (upd (upd H3 p4 (.lst [.str "most"])) p5 (.lst ((beyL s.bl s.bm).map V.str ++ [.str "most"]))) p6 (.lst ((beyL s.bl true).map V.str))) p6 = _ := upd_same
              have t5 : p6 ∉ T0 := hx.fresh ((Off.new hp4).new2 hp5) hp6
              generalize (upd (upd (upd H3 p4 (.lst [.str "most"])) p5 (.lst ((beyL s.bl s.bm).map V.str ++ [.str "most"]))) p6 (.lst ((beyL s.bl true).map V.str))) = H4 at *
              walk_at "go"
              rename_i H5 l1 l2
              refine ⟨_, _, _, _, rfl, ?_, ?_, ?_⟩
              · have e9 : (s.bm || decide (s.most < t.present + n)) = true := by rw [decide_eq_true b1, Bool.or_true]
                rw [e9]
                exact (hx.off o3 (by simp)).putBey i8 l1 l2 i9 t5
              · exact (oN'.trans (o3.mono (by simp))).trans (l2.mono (by simp))
              · exact l2.at (by simpa using fun z => by rw [z, i8] at i7; cases i7) i7
            · walk_at "go"
              refine ⟨_, _, _, _, rfl, ?_, oN', wbl⟩
              have e9 : (s.bm || decide (s.most < t.present + n)) = s.bm := by rw [b2, Bool.true_or]
              rw [e9]
              exact hx
          · have b1 : ¬ s.most < t.present + n := b1
            walk_at "go"
            refine ⟨_, _, _, _, rfl, ?_, oN', wbl⟩
            have e9 : (s.bm || decide (s.most < t.present + n)) = s.bm := by rw [decide_eq_false b1, Bool.or_false]
            rw [e9]
            exact hx
        · rintro σ H' ⟨a5, a6, a7, a8, rfl, hx, ox, jx⟩
          exact do_fin hx jx hb5 fun H2 h2 o2 => q H2 h2 (ox.trans (o2.mono (by simp)))
      | tell b =>
        have hst' : SqT K H p [.str "tell", .int b] := hst
        obtain ⟨ba, t, u, k, e1, e2, e3, e4, e5, q4, q5, q6⟩ := boat_at hbs hok
        have hne : t.untold.isEmpty = false := by simpa [Sea.can, e2] using hcan
        have hlen := Paired.length hbs
        have hb5 : bs.length ≤ 5 := by have := hg.len; have := hg.plan.n1; omega
        obtain ⟨us, g1, g2⟩ := e4
        obtain ⟨ks, g3, g4⟩ := e5
        have nu : u ≠ ba := fun z => by rw [z, e3] at g1; cases g1
        have nk : k ≠ ba := fun z => by rw [z, e3] at g3; cases g3
        have nd1 : d ≠ ba := fun z => (List.nodup_cons.mp nd).1 (z ▸ List.mem_of_getElem? e1)
        have no : ow ≠ ba := fun z => by rw [z, e3] at h2; cases h2
        have nbe : be ≠ ba := fun z => by rw [z, e3] at h5; cases h5
        have nbl : bl ≠ ba := fun z => by rw [z, e3] at h4; cases h4
        obtain ⟨r, rs, er⟩ : ∃ r rs, t.untold = r :: rs := by
          cases hh : t.untold with
          | nil => rw [hh] at hne; cases hne
          | cons r rs => exact ⟨r, rs, rfl⟩
        have gg := g2
        rw [er] at gg
        obtain ⟨v, us, ev, gr, gt⟩ : ∃ v vs, us = v :: vs ∧ RowR H v r ∧ RowsR H vs rs := by
          cases gg with
          | cons a b => exact ⟨_, _, rfl, a, b⟩
        obtain ⟨pr, rfl, hpr⟩ := gr
        rw [ev] at g1
        walk_at "go"
        refine g_cut (fun σ H' => ∃ a5 a6 a7 a8, σ = [some (.ref d), some (.ref p), some (.int s.now), some (.ref bl), some (.ref be), a5, a6, a7, a8, none, none] ∧ OwnAt T0 H' d bs (s.pre (.tell b)) ∧ Off (d :: bs) H H' ∧ H' bl = some (.lst (bs.map V.ref))) ?_ ?_
        · walk_at "go"
          rename_i p0 hp0 H1 l1 m1 p1 hp1 H2 l2 m2
          have w2 : H2 p1 = some (.lst us) := m2.at (by simpa using fun z => by rw [← z, hp1] at l1; cases l1) (by rw [upd_same, cutV_tail])
          have wbl : H2 bl = some (.lst (bs.map V.ref)) := by walk_at "hp"
          have oN1 : Off [ba] H H1 := by walk_at "of"
          have t3 : p1 ∉ T0 := ho'.fresh' oN1 hp1
          have oN : Off [ba] H H2 := (oN1.new2 hp1).trans m2
          have hx : OwnAt T0 H2 d bs { s with boats := s.boats.set b t.tell } := ho'.setB e1 oN (t' := t.tell) (by
            have ez : t.tell.told = t.told + r.2 := by simp [Bt.tell, er]
            rw [l2]
            show some (HO.dK (boatK (t.s_told (t.told + r.2)) _ _)) = some (HO.dK (boatK { t with told := t.tell.told } _ _))
            rw [ez]
            rfl) ⟨_, w2, by
                   have e : t.tell.untold = rs := by simp [Bt.tell, er]
                   rw [e]; exact gt.off oN⟩ ⟨ks, oN.at (by simpa using nk) g3, g4.off oN⟩ t3 q5
          have e8 : s.boats.set b t.tell = s.boats.modify b Bt.tell := (modify_set (f := Bt.tell) e2).symm
          rw [e8] at hx
          exact ⟨_, _, _, _, rfl, hx, oN.mono (by simp [List.mem_of_getElem? e1]), wbl⟩
        · rintro σ H' ⟨a5, a6, a7, a8, rfl, hx, ox, jx⟩
          exact do_fin hx jx hb5 fun H2 h2 o2 => q H2 h2 (ox.trans (o2.mono (by simp)))
      | hear b =>
        have hst' : SqT K H p [.str "hear", .int b] := hst
        obtain ⟨ba, t, u, k, e1, e2, e3, e4, e5, q4, q5, q6⟩ := boat_at hbs hok
        have hne : t.unheard.isEmpty = false := by simpa [Sea.can, e2] using hcan
        have hlen := Paired.length hbs
        have hb5 : bs.length ≤ 5 := by have := hg.len; have := hg.plan.n1; omega
        obtain ⟨us, g1, g2⟩ := e4
        obtain ⟨ks, g3, g4⟩ := e5
        have nu : u ≠ ba := fun z => by rw [z, e3] at g1; cases g1
        have nk : k ≠ ba := fun z => by rw [z, e3] at g3; cases g3
        have nd1 : d ≠ ba := fun z => (List.nodup_cons.mp nd).1 (z ▸ List.mem_of_getElem? e1)
        have no : ow ≠ ba := fun z => by rw [z, e3] at h2; cases h2
        have nbe : be ≠ ba := fun z => by rw [z, e3] at h5; cases h5
        have nbl : bl ≠ ba := fun z => by rw [z, e3] at h4; cases h4
        obtain ⟨r, rs, er⟩ : ∃ r rs, t.unheard = r :: rs := by
          cases hh : t.unheard with
          | nil => rw [hh] at hne; cases hne
          | cons r rs => exact ⟨r, rs, rfl⟩
        have gg := g4
        rw [er] at gg
        obtain ⟨v, ks, ev, gr, gt⟩ : ∃ v vs, ks = v :: vs ∧ RowR H v r ∧ RowsR H vs rs := by
          cases gg with
          | cons a b => exact ⟨_, _, rfl, a, b⟩
        obtain ⟨pr, rfl, hpr⟩ := gr
        rw [ev] at g3
        walk_at "go"
        refine g_cut (fun σ H' => ∃ a5 a6 a7 a8, σ = [some (.ref d), some (.ref p), some (.int s.now), some (.ref bl), some (.ref be), a5, a6, a7, a8, none, none] ∧ OwnAt T0 H' d bs (s.pre (.hear b)) ∧ Off (d :: bs) H H' ∧ H' bl = some (.lst (bs.map V.ref))) ?_ ?_
        · walk_at "go"
          rename_i p0 hp0 H1 l1 m1 p1 hp1 H2 l2 m2
          have w2 : H2 p1 = some (.lst ks) := m2.at (by simpa using fun z => by rw [← z, hp1] at l1; cases l1) (by rw [upd_same, cutV_tail])
          have wbl : H2 bl = some (.lst (bs.map V.ref)) := by walk_at "hp"
          have oN1 : Off [ba] H H1 := by walk_at "of"
          have t3 : p1 ∉ T0 := ho'.fresh' oN1 hp1
          have oN : Off [ba] H H2 := (oN1.new2 hp1).trans m2
          have hx : OwnAt T0 H2 d bs { s with boats := s.boats.set b t.hear } := ho'.setB e1 oN (t' := t.hear) (by
            have ez : t.hear.heard = t.heard + r.2 := by simp [Bt.hear, er]
            rw [l2]
            show some (HO.dK (boatK (t.s_heard (t.heard + r.2)) _ _)) = some (HO.dK (boatK { t with heard := t.hear.heard } _ _))
            rw [ez]
            rfl) ⟨us, oN.at (by simpa using nu) g1, g2.off oN⟩ ⟨_, w2, by
                   have e : t.hear.unheard = rs := by simp [Bt.hear, er]
                   rw [e]; exact gt.off oN⟩ q4 t3
          have e8 : s.boats.set b t.hear = s.boats.modify b Bt.hear := (modify_set (f := Bt.hear) e2).symm
          rw [e8] at hx
          exact ⟨_, _, _, _, rfl, hx, oN.mono (by simp [List.mem_of_getElem? e1]), wbl⟩
        · rintro σ H' ⟨a5, a6, a7, a8, rfl, hx, ox, jx⟩
          exact do_fin hx jx hb5 fun H2 h2 o2 => q H2 h2 (ox.trans (o2.mono (by simp)))
      | trade f2 t2 n =>
        have hst' : SqT K H p [.str "trade", .int f2, .int t2, .int n] := hst
        obtain ⟨hf, ht, hft, _⟩ := hok
        obtain ⟨ba, t, u, k, e1, e2, e3, e4, e5, q4, q5, q6⟩ := boat_at hbs hf
        have et : bs[t2]? = some (bs[t2]) := List.getElem?_eq_getElem ht
        generalize bs[t2] = bt at et
        have hlen := Paired.length hbs
        have hb5 : bs.length ≤ 5 := by have := hg.len; have := hg.plan.n1; omega
        walk_at "go"
        refine g_cut (fun σ H' => ∃ a5 a6 a7 a8, σ = [some (.ref d), some (.ref p), some (.int s.now), some (.ref bl), some (.ref be), a5, a6, a7, a8, none, none] ∧ OwnAt T0 H' d bs (s.pre (.trade f2 t2 n)) ∧ Off (d :: bs) H H' ∧ H' bl = some (.lst (bs.map V.ref))) ?_ ?_
        · walk_at "go"
          rename_i p0 hp0 p1 hp1 p2 hp2 p3 hp3
          have oA : Off [] H (upd (upd (upd (upd H p0 (.tup [.int s.now, .ref bl])) p1 (.tup [.ref ba, .int (-n)])) p2 (.tup [.ref bt, .int n])) p3 (.lst [.ref p1, .ref p2])) := (((Off.new hp0).new2 hp1).new2 hp2).new2 hp3
          have i1 : (upd (upd (upd (upd H p0 (.tup [.int s.now, .ref bl])) p1 (.tup [.ref ba, .int (-n)])) p2 (.tup [.ref bt, .int n])) p3 (.lst [.ref p1, .ref p2])) p1 = some (.tup [.ref ba, .int (-n)]) := upd_new (upd_new upd_same hp2) hp3
          have i2 : (upd (upd (upd (upd H p0 (.tup [.int s.now, .ref bl])) p1 (.tup [.ref ba, .int (-n)])) p2 (.tup [.ref bt, .int n])) p3 (.lst [.ref p1, .ref p2])) p2 = some (.tup [.ref bt, .int n]) := upd_new upd_same hp3
          have i3 : (upd (upd (upd (upd H p0 (.tup [.int s.now, .ref bl])) p1 (.tup [.ref ba, .int (-n)])) p2 (.tup [.ref bt, .int n])) p3 (.lst [.ref p1, .ref p2])) p3 = some (.lst [.ref p1, .ref p2]) := upd_same
          have i4 := oA.at nin_nil h4
          have hoA := ho'.off oA (by simp)
          generalize (upd (upd (upd (upd H p0 (.tup [.int s.now, .ref bl])) p1 (.tup [.ref ba, .int (-n)])) p2 (.tup [.ref bt, .int n])) p3 (.lst [.ref p1, .ref p2])) = HA at *
          refine forL_mk (fun i σ H' => ∃ a7 a8, σ = [some (.ref d), some (.ref p), some (.int s.now), some (.ref bl), some (.ref be), none, some (.ref ba), a7, a8, none, none] ∧ OwnAt T0 H' d bs (s.half f2 t2 n i) ∧
            Off (d :: bs) HA H' ∧ H' bl = some (.lst (bs.map V.ref)) ∧ H' p3 = some (.lst [.ref p1, .ref p2])) (.of i3) ⟨_, _, rfl, hoA, .refl _ _, i4, i3⟩ ?_ ?_ ?_
          · rintro i σ H' hi ⟨a7, a8, _, _, _, _, j⟩
            exact .of j
          · rintro i x σ H' hi ⟨a7, a8, rfl, hx, ox, jl, j3⟩
            obtain ⟨px, j, am, bj, rfl, c1, c2, c4, c5⟩ : ∃ px j am bj, x = .ref px ∧ HA px = some (.tup [.ref bj, .int am]) ∧ bs[j]? = some bj ∧ s.half f2 t2 n (i + 1) = { s.half f2 t2 n i with boats := (s.half f2 t2 n i).boats.modify j (fun t => t.change s.now am) } ∧ i < 2 := by
              match i, hi with
              | 0, hi => cases hi; exact ⟨_, _, _, _, rfl, i1, e1, rfl, by omega⟩
              | 1, hi => cases hi; exact ⟨_, _, _, _, rfl, i2, et, rfl, by omega⟩
            have jx := ox.tups _ _ c1
            have hjb : j < bs.length := (List.getElem?_eq_some_iff.mp c2).1
            obtain ⟨ba', t', u', k', f1, f2', f3, f4, f5, r4, r5, r6⟩ := boat_at hx.boats hjb
            cases c2.symm.trans f1
            obtain ⟨us, g1, g2⟩ := f4
            obtain ⟨ks, g3, g4⟩ := f5
            have nu : u' ≠ bj := fun z => by rw [z, f3] at g1; cases g1
            have nk : k' ≠ bj := fun z => by rw [z, f3] at g3; cases g3
            have nbl : bl ≠ bj := fun z => by rw [z, f3] at jl; cases jl
            have np3 : p3 ≠ bj := fun z => by rw [z, f3] at j3; cases j3
            have hub := half_ub hg f2 t2 n i t' (List.mem_of_getElem? f2')
            have hlk := g4.length
            have hz : ks.length + 1 ≤ 1000000 := by omega
            walk_at "go"
            rename_i H1 l1 m1 q1 hq1 q2 hq2 q3 hq3 H2 l2 m2
            have w1 : H2 q1 = some (.tup [.int s.now, .int am]) := m2.tups _ _ (upd_new (upd_new upd_same hq2) hq3)
            have w2 : H2 q3 = some (.lst (ks ++ [.ref q1])) := m2.at (by simpa using fun z => by have h : upd (upd H1 q1 (.tup [.int s.now, .int am])) q2 (.lst [.ref q1]) bj = some _ := upd_new (upd_new l1 hq1) hq2; rw [← z, hq3] at h; cases h) upd_same
            have wbl : H2 bl = some (.lst (bs.map V.ref)) := by walk_at "hp"
            have wp3 : H2 p3 = some (.lst [.ref p1, .ref p2]) := by walk_at "hp"
            have oN2 : Off [bj] H' (upd (upd H1 q1 (.tup [.int s.now, .int am])) q2 (.lst [.ref q1])) := by walk_at "of"
            have t3 : q3 ∉ T0 := hx.fresh' oN2 hq3
            have oN : Off [bj] H' H2 := (oN2.new2 hq3).trans m2
            have hy := hx.setB c2 oN (t' := t'.change s.now am) l2 ⟨us, oN.at (by simpa using nu) g1, g2.off oN⟩ ⟨_, w2, (g4.off oN).append (.cons ⟨q1, rfl, w1⟩ .nil)⟩ r4 t3
            have e8 : (s.half f2 t2 n i).boats.set j (t'.change s.now am) = (s.half f2 t2 n i).boats.modify j (fun t => t.change s.now am) := (modify_set (f := fun t => t.change s.now am) f2').symm
            rw [e8, ← c4] at hy
            exact ⟨_, _, rfl, hy, ox.trans (oN.mono (by simp [List.mem_of_getElem? c2])), wbl, wp3⟩
          · rintro σ H' ⟨a7, a8, rfl, hx, ox, jl, j3⟩
            exact ⟨_, _, _, _, rfl, hx, (oA.mono (by simp)).trans ox, jl⟩
        · rintro σ H' ⟨a5, a6, a7, a8, rfl, hx, ox, jx⟩
          exact do_fin hx jx hb5 fun H2 h2 o2 => q H2 h2 (ox.trans (o2.mono (by simp)))
end
end SH
end

section
/-! #### the walk's words -/
local macro_rules | `(tactic| walk_at "ne0") => `(tactic| first
  | assumption
  | (refine Ne.symm ?_; assumption))
local macro_rules | `(tactic| walk_at "ne") => `(tactic| first
  | assumption
  | (refine Ne.symm ?_; assumption)
  | (refine' L2.ne_of_none ?gx (by assumption); (case gx => walk_at "hp"))
  | (refine' Ne.symm (L2.ne_of_none ?gx (by assumption)); (case gx => walk_at "hp")))
local macro_rules | `(tactic| walk_at "hp") => `(tactic| first
  | assumption
  | exact L2.upd_same
  | (refine' SH.upd_new ?gh (by assumption); (case gh => walk_at "hp"))
  | (refine' (L2.upd_ne ?gn).trans ?gh; (case gn => walk_at "ne0"); (case gh => walk_at "hp"))
  | (refine' SH.Off.at (by assumption) ?gn ?gh; (case gn => walk_at "nin"); (case gh => walk_at "hp")))
local macro_rules | `(tactic| walk_at "nin") => `(tactic| first
  | exact SH.nin_nil
  | (refine SH.nin_cons ?_ ?_; (· walk_at "ne0"); (· walk_at "nin")))
local macro_rules | `(tactic| walk_at "sq") => `(tactic| first
  | assumption
  | (apply L2.SqL.of; (· walk_at "hp"))
  | (apply L2.SqT.of; (· walk_at "hp"))
  | (refine' SH.seqT_new ?gx (by assumption); (case gx => walk_at "sq"))
  | (refine' SH.seqL_new ?gx (by assumption); (case gx => walk_at "sq"))
  | (refine' SH.Off.seqT (by assumption) ?gx; (case gx => walk_at "sq"))
  | (refine' SH.Off.seqL (by assumption) ?gy ?gx; (case gx => walk_at "sq"); (case gy => walk_at "nin")))
local macro_rules | `(tactic| walk_at "kd") => `(tactic| first
  | assumption | exact SH.KdV.int _ | exact SH.KdV.bl _ | exact SH.KdV.str _ | exact SH.KdV.non
  | (apply SH.KdV.tup; (· walk_at "sq")) | (apply SH.KdV.lst; (· walk_at "sq")))
/-- a way that cannot be -/
local macro_rules | `(tactic| walk_at "no") => `(tactic| (exfalso; first | assumption | omega | contradiction | (simp_all; done)))
/-- one step -/
local macro_rules | `(tactic| walk_at "g1") => `(tactic| with_reducible first
  | refine SH.g_var (by with_unfolding_all rfl) ?_ | refine SH.g_c ?_ | refine SH.g_op ?_ | refine SH.g_un ?_ | refine SH.g_I0 ?_ | refine SH.g_U ?_
  | refine SH.g_eqI ?_ | refine SH.g_neI ?_ | refine SH.g_eqS ?_ | refine SH.g_neS ?_
  | refine SH.g_test ?_ | refine SH.g_B ?_ | refine SH.g_isB ?_ | refine SH.g_and ?_ | refine SH.g_or ?_ | refine SH.g_not ?_ | refine SH.g_andV ?_ | refine SH.g_orV ?_ | refine SH.g_notV ?_ | refine SH.g_ifE ?_ | refine SH.g_chain ?_
  | refine SH.g_nil ?_ | refine SH.g_cons ?_ | refine SH.g_tup ?_ | refine SH.g_lst ?_ | refine SH.g_call ?_ | refine SH.g_fld ?_ | refine SH.g_meth ?_ | refine SH.g_make ?_ | refine SH.g_cb ?_ | refine SH.g_bm ?_
  | refine SH.g_seq ?_ | refine SH.g_asg ?_ | refine SH.g_name ?_ | refine SH.g_drop ?_ | refine SH.g_ret ?_ | refine SH.g_retN ?_ | refine SH.g_next ?_ | refine SH.g_brk ?_ | refine SH.g_cnt ?_ | refine SH.g_ifs ?_ | refine SH.g_par ?_ | refine SH.g_par2 ?_ | refine SH.g_fldS ?_ | refine SH.g_raise ?_ | refine SH.g_rs ?_
  | refine SH.g_sub ?_ | refine SH.g_yes ?_ | refine SH.g_sl ?_ | refine SH.g_noPart ?_ | refine SH.g_part ?_ | refine SH.g_intO ?_ | refine SH.g_dget ?_ | refine SH.g_dput ?_ | refine SH.g_forR ?_ | refine SH.g_forL ?_ | refine SH.g_forT ?_ | refine SH.g_lcR ?_ | refine SH.g_lcL ?_ | refine SH.g_lcT ?_ | refine SH.g_gcons ?_ | refine SH.g_gnil ?_
  | refine SH.br_t ?_ | refine SH.br_f ?_
  | refine SH.g_int ?_ | refine SH.g_abs ?_ | refine SH.g_max2 ?_ | refine SH.g_min2 ?_)
local macro_rules | `(tactic| walk_at "g2") => `(tactic| first
  | walk_at "g1"
  | ((with_reducible refine' SH.g_isiInt ?ga ?gz); (case ga => walk_at "kd"))
  | ((with_reducible refine' SH.g_isiBool ?ga ?gz); (case ga => walk_at "kd"))
  | ((with_reducible refine' SH.g_isiStr ?ga ?gz); (case ga => walk_at "kd"))
  | ((with_reducible refine' SH.g_isiTup ?ga ?gz); (case ga => walk_at "kd"))
  | ((with_reducible refine' SH.g_ixT ?ga ?gb ?gz); (case ga => walk_at "sq"); (case gb => rfl))
  | ((with_reducible refine' SH.g_ixL ?ga ?gb ?gz); (case ga => walk_at "sq"); (case gb => first | rfl | (apply SH.atI_refs; assumption)))
  | ((with_reducible refine SH.br_F ?_ ?_); (· decide +kernel)) | ((with_reducible refine SH.br_T ?_ ?_); (· decide +kernel)) | ((with_reducible refine SH.br_NF ?_ ?_); (· decide +kernel)) | ((with_reducible refine SH.br_NT ?_ ?_); (· decide +kernel))
  | ((with_reducible refine' SH.g_gtup ?ga ?gb ?gz); (case ga => walk_at "sq"); (case gb => rfl))
  | ((with_reducible refine' SH.g_lenT ?ga ?gz); (case ga => walk_at "sq"))
  | ((with_reducible refine' SH.g_lenL ?ga ?gz); (case ga => walk_at "sq"))
  | ((with_reducible refine SH.g_mkT (SH.sz rfl) ?_); intro _ _)
  | ((with_reducible refine SH.g_mkL (SH.sz rfl) ?_); intro _ _)
  | ((with_reducible refine SH.g_dnew ?_); intro _ _)
  | ((with_reducible refine' SH.g_tupL ?ga ?gz); (case ga => walk_at "sq"); intro _ _)
  | ((with_reducible refine' SH.g_lstL ?ga ?gz); (case ga => walk_at "sq"); intro _ _)
  | ((with_reducible refine' SH.g_lstT ?ga ?gz); (case ga => walk_at "sq"); intro _ _)
  | ((with_reducible refine' SH.g_dgR ?ga ?gb ?gz); (case ga => walk_at "hp"); (case gb => walk_at "dv"))
  | ((with_reducible refine' SH.g_fldR ?ga ?gb ?gc ?gd ?gz); (case ga => walk_at "hp"); (case gb => walk_at "cl"); (case gc => walk_at "na"); (case gd => walk_at "fv"))
  | ((with_reducible refine' SH.g_insR ?ga ?gb ?gz); (case ga => walk_at "hp"); (case gb => walk_at "fn"))
  | ((with_reducible refine' SH.g_setL ?ga ?gb ?gz); (case ga => walk_at "hp"); (case gb => rfl))
  | ((with_reducible refine SH.g_I ?_ ?_); (· walk_at "ci"))
  | ((with_reducible refine' SH.g_slL ?ga ?gz); (case ga => walk_at "sq"); intro _ _)
  | ((with_reducible refine' SH.g_cat ?ga ?gb ?gc ?gz); (case ga => walk_at "hp"); (case gb => walk_at "hp"); (case gc => walk_at "ls"); intro _ _))
/-- the side conditions of numbers: a divisor, a factor -/
local macro_rules | `(tactic| walk_at "ci") => `(tactic| first
  | (show _ ≠ _; omega) | (show _ < _; omega) | (constructor <;> omega) | (refine Or.inr ⟨?_, ?_⟩ <;> (show _ < _; omega)) | (refine Or.inl ⟨?_, ?_⟩ <;> (show _ < _; omega)) | (refine ⟨?_, ?_, ?_⟩ <;> decide))
local macro_rules | `(tactic| walk_at "ls") => `(tactic| first | (show _ ≤ _; exact Nat.le_trans (by assumption) (by decide)) | (show _ ≤ _; exact Nat.le_trans (by simp; omega) (by decide : 1000 ≤ sizeLine)))
local macro_rules | `(tactic| walk_at "dv") => `(tactic| rfl)
local macro_rules | `(tactic| walk_at "fv") => `(tactic| rfl)
local macro_rules | `(tactic| walk_at "fn") => `(tactic| rfl)
local macro_rules | `(tactic| walk_at "cl") => `(tactic| assumption)
local macro_rules | `(tactic| walk_at "na") => `(tactic| assumption)
local macro_rules | `(tactic| walk_at "go") => `(tactic| repeat walk_at "g2")
/-- a way is split -/
local macro_rules | `(tactic| walk_at "br") => `(tactic| with_reducible first
  | refine SH.br_d (fun _ => ?_) (fun _ => ?_) | refine SH.br_nd (fun _ => ?_) (fun _ => ?_) | refine SH.br_b (fun _ => ?_) (fun _ => ?_))
/-- all ways -/
local macro_rules | `(tactic| walk_at "all") => `(tactic| repeat' first | walk_at "g2" | (walk_at "br" <;> try (walk_at "no")))
/-- a truth value is the other -/
local macro_rules | `(tactic| walk_at "bq") => `(tactic| first | rfl | (simp_all; done) | (simp_all; omega) | (simp only [decide_eq_true_eq, decide_eq_false_iff_not, Bool.and_eq_true, Bool.or_eq_true] at *; omega))
/-- what was tracked is as it was -/
local macro_rules | `(tactic| walk_at "of") => `(tactic| first
  | assumption
  | exact SH.Off.refl _ _
  | (refine' SH.Off.new2 ?gx (by assumption); (case gx => walk_at "of"))
  | (refine' SH.Off.mut ?gx (by assumption); (case gx => walk_at "of"))
  | (refine' SH.Off.trans' ?gx (by assumption) ?gy; (case gy => (intro _ h; (first | exact h | (simp at h; done) | (simp at h ⊢; simp [h]; done)))); (case gx => walk_at "of")))
/-- the own season's dicts -/
local macro_rules | `(tactic| walk_at "dv") => `(tactic| with_reducible first
  | exact SH.bk_right | exact SH.bk_heard | exact SH.bk_landed | exact SH.bk_told | exact SH.bk_untold | exact SH.bk_unheard | exact SH.bk_present
  | exact SH.ok_own | exact SH.ok_now | exact SH.ok_boats | exact SH.ok_broken | exact SH.ok_beyond)
local macro_rules | `(tactic| walk_at "dw") => `(tactic| with_reducible first
  | exact SH.bp_right | exact SH.bp_heard | exact SH.bp_landed | exact SH.bp_told | exact SH.bp_untold | exact SH.bp_unheard | exact SH.bp_present
  | exact SH.op_now | exact SH.op_broken | exact SH.op_beyond)
local macro_rules | `(tactic| walk_at "g2") => `(tactic|
  ((with_reducible refine' SH.g_dpA ?ga ?gb ?gc ?gz); (case ga => walk_at "hp"); (case gb => walk_at "dw"); (case gc => exact SH.szk rfl); intro _ _ _))
local macro_rules | `(tactic| walk_at "sq") => `(tactic|
  ((refine' SH.seqT_put ?gx ?gy ?gz); (case gy => walk_at "hp"); (case gz => exact trivial); (case gx => walk_at "sq")))
local macro_rules | `(tactic| walk_at "g2") => `(tactic|
  ((with_reducible refine' SH.g_ixL ?ga ?gb ?gz); (case ga => walk_at "sq"); (case gb => first | rfl | (apply SH.atI_refs; assumption) | exact SH.atI_cons0)))
/-- the package's season: its instances -/
local macro_rules | `(tactic| walk_at "fv") => `(tactic| with_reducible first
  | exact SH.bf_right | exact SH.bf_heard | exact SH.bf_landed | exact SH.bf_told | exact SH.bf_untold | exact SH.bf_unheard | exact SH.bf_present
  | exact SH.pf_shares | exact SH.pf_most | exact SH.pf_late | exact SH.pf_reserve
  | exact SH.sf_plan | exact SH.sf_now | exact SH.sf_boats | exact SH.sf_broken | exact SH.sf_beyond)
local macro_rules | `(tactic| walk_at "fp") => `(tactic| with_reducible first
  | exact SH.bq_right | exact SH.bq_heard | exact SH.bq_landed | exact SH.bq_told | exact SH.bq_present | exact SH.sq_now | exact SH.sq_broken)
local macro_rules | `(tactic| walk_at "fn") => `(tactic| kernel_rfl)
local macro_rules | `(tactic| walk_at "lt") => `(tactic| (rw [PySem.sizeLine_eq]; omega))
local macro_rules | `(tactic| walk_at "g2") => `(tactic| first
  | (with_reducible first | refine SH.br_ntt ?_ | refine SH.br_ntf ?_ | refine SH.br_k ?_ | refine SH.br_nk ?_ | refine SH.g_fldAug ?_ | refine SH.g_rAdd ?_ | refine SH.g_rSub ?_)
  | ((with_reducible refine SH.br_inF ?_ ?_); (· decide +kernel)) | ((with_reducible refine SH.br_inT ?_ ?_); (· decide +kernel))
  | ((with_reducible refine' SH.g_inT ?ga ?gb ?gc ?gz); (case ga => walk_at "sq"); (case gb => exact rfl); (case gc => kernel_rfl))
  | ((with_reducible refine' SH.g_stA ?ga ?gb ?gc ?gd ?ge ?gz); (case ga => walk_at "hp"); (case gb => walk_at "cl"); (case gc => walk_at "na"); (case gd => walk_at "fp"); (case ge => exact SH.szf rfl); intro _ _ _)
  | ((with_reducible refine' SH.g_augR ?ga ?gb ?gc ?gd ?gz); (case ga => walk_at "hp"); (case gb => walk_at "cl"); (case gc => walk_at "na"); (case gd => walk_at "fv"))
  | ((with_reducible refine' SH.g_putC ?ga ?gb ?gc ?gz); (case ga => walk_at "hp"); (case gb => walk_at "fp"); (case gc => exact SH.szf rfl); intro _ _ _)
  | ((with_reducible refine' SH.g_app' ?ga ?gb ?gz); (case ga => walk_at "hp"); (case gb => walk_at "lt"); intro _ _ _)
  | ((with_reducible refine' SH.g_popF ?ga ?gz); (case ga => walk_at "hp"); intro _ _ _)
  | ((with_reducible refine' SH.g_bml ?ga ?gz); (case ga => walk_at "sq"))
  | ((with_reducible refine' SH.g_isiSelf ?ga ?gb ?gc ?gz); (case ga => walk_at "hp"); (case gb => walk_at "cl"); (case gc => walk_at "cl")))
local macro_rules | `(tactic| walk_at "g2") => `(tactic|
  ((with_reducible refine' SH.g_ixL ?ga ?gb ?gz); (case ga => walk_at "sq"); (case gb => first | rfl | (apply SH.atI_refs; assumption) | exact SH.atI_cons0 | (apply SH.atI_bs; assumption))))
namespace SH
open PySem PySem.Spec PyProof.Rows L2
def spCanP (K : PySem.W.Frag) : Sp := fun vs H Q _ => ∃ k s v st, vs = [.ref k.q, v] ∧ PkAt K H k s ∧ StepAt K H v st ∧ st.ok k.bs.length ∧ ∀ H', Off [] H H' → Q (.bl (s.can st)) H'
section
variable {P : Program} {w : World} {K : PySem.W.Frag} {mg : Str → Option Value} {base : Heap}
theorem pk_boat' {H : Hp} {k : Pk} {s : Sea} (x : PkAt K H k s) {i : Nat} (hi : i < k.bs.length) : ∃ y t, k.bs[i]? = some y ∧ s.boats[i]? = some t ∧ PkB K H y t := by
  have hl := Paired.length x.boats
  obtain ⟨y, hy, h⟩ := paired_get (i := i) (x := s.boats[i]'(by omega)) x.boats (by simp)
  exact ⟨y, _, hy, by simp, h⟩
theorem ok_Season_can_do (T : Txt P w K mg) : MthOk P w K mg base (He.ga K "Season") "can_do" 1 ["self", "step"] (spCanP K) := by
  refine T.m_Season_can_do.ok T.cl_Season sc_Season_can_do (fun _ _ _ _ _ _ us hl => match us, hl with | [_, _], _ => rfl) (fun vs H Q E h => ?_) (fun f cdv A outer s H vs Q E hr h => ?_)
  · obtain ⟨k, s, v, st, rfl, _⟩ := h
    rfl
  · obtain ⟨k, s, v, st, rfl, hx, ⟨p, rfl, hst⟩, hok, q⟩ := h
    have B := T.blt
    have hu := hu_of hr
    have c_MOST_NOW := T.c_MOST_NOW
    have cl_Plan := T.cl_Plan
    have is_Plan := T.is_Plan
    have na_Plan_reserve := T.na_Plan_reserve
    have cl_Boat := T.cl_Boat
    have is_Boat := T.is_Boat
    have na_Boat_right := T.na_Boat_right
    have na_Boat_heard := T.na_Boat_heard
    have na_Boat_landed := T.na_Boat_landed
    have na_Boat_told := T.na_Boat_told
    have na_Boat_untold := T.na_Boat_untold
    have na_Boat_unheard := T.na_Boat_unheard
    have cl_Season := T.cl_Season
    have is_Season := T.is_Season
    have na_Season_plan := T.na_Season_plan
    have na_Season_now := T.na_Season_now
    have na_Season__boats := T.na_Season__boats
    refine ⟨_, (pss_cons (ps_if (pt_cmpR op_eq (pe_ix (ix_tupK (K := K) rfl) (pv 1) pe_int (fun _ _ => rfl)) pe_str (nomark _))
    (pss_one (ps_ret (pe_cmpR op_lt (pe_fldK (K := K) rfl (pv 0) rfl) (pe_cint c_MOST_NOW) (nomark _))))
    pss_nil)
  (pss_cons (ps_set (i := 2) sc_Season_can_do.nd rfl (by first | exact Or.inl rfl | exact Or.inr rfl) (pe_ix (ix_listK (K := K) rfl) (pe_fldK (K := K) rfl (pv 0) rfl) (pe_ix (ix_tupK (K := K) rfl) (pv 1) pe_int (fun _ _ => rfl)) (fun _ _ => rfl)))
  (pss_cons (ps_if (pt_cmpR op_eq (pe_ix (ix_tupK (K := K) rfl) (pv 1) pe_int (fun _ _ => rfl)) pe_str (nomark _))
    (pss_one (ps_ret (pe_cmpR op_le (pe_op op_add (pe_fldK (K := K) rfl (pv 2) rfl) (pe_ix (ix_tupK (K := K) rfl) (pv 1) pe_int (fun _ _ => rfl))) (pe_fldK (K := K) rfl (pv 2) rfl) (nomark _))))
    pss_nil)
  (pss_cons (ps_if (pt_cmpR op_eq (pe_ix (ix_tupK (K := K) rfl) (pv 1) pe_int (fun _ _ => rfl)) pe_str (nomark _))
    (pss_one (ps_ret (pe_cmpR op_gt (pe_callB (c_lenK (K := K) rfl) (by rfl) B.b_len PySem.boot_len (pa_cons (pe_fldK (K := K) rfl (pv 2) rfl) pa_nil)) pe_int (nomark _))))
    pss_nil)
  (pss_cons (ps_if (pt_cmpR op_eq (pe_ix (ix_tupK (K := K) rfl) (pv 1) pe_int (fun _ _ => rfl)) pe_str (nomark _))
    (pss_one (ps_ret (pe_cmpR op_gt (pe_callB (c_lenK (K := K) rfl) (by rfl) B.b_len PySem.boot_len (pa_cons (pe_fldK (K := K) rfl (pv 2) rfl) pa_nil)) pe_int (nomark _))))
    pss_nil)
  (pss_one (ps_ret (pe_cmpR op_ge (pe_op op_sub (pe_op op_sub (pe_fldK (K := K) rfl (pv 2) rfl) (pe_fldK (K := K) rfl (pv 2) rfl)) (pe_ix (ix_tupK (K := K) rfl) (pv 1) pe_int (fun _ _ => rfl))) (pe_fldK (K := K) rfl (pe_fldK (K := K) rfl (pv 0) rfl) rfl) (nomark _))))))))), ?_⟩
    obtain ⟨dq, h1⟩ := hx.hq
    obtain ⟨dp, h2⟩ := hx.hp
    have hl := hx.hl
    cases st with
    | tick =>
      have hst' : SqT K H p [.str "tick"] := hst
      walk_at "go"
      exact q H (.refl _ _)
    | land b n =>
      have hst' : SqT K H p [.str "land", .int b, .int n] := hst
      obtain ⟨y, t, hy, ht, ⟨dy, e1⟩, ⟨us, e2, e3⟩, ⟨ks, e4, e5⟩⟩ := pk_boat' hx hok.1
      walk_at "go"
      exact qb (q H (.refl _ _)) (by simp [Sea.can, ht])
    | tell b =>
      have hst' : SqT K H p [.str "tell", .int b] := hst
      obtain ⟨y, t, hy, ht, ⟨dy, e1⟩, ⟨us, e2, e3⟩, ⟨ks, e4, e5⟩⟩ := pk_boat' hx hok
      walk_at "go"
      refine qb (q H (.refl _ _)) ?_
      have := e3.length
      simp [Sea.can, ht, this]
      cases t.untold <;> simp
    | hear b =>
      have hst' : SqT K H p [.str "hear", .int b] := hst
      obtain ⟨y, t, hy, ht, ⟨dy, e1⟩, ⟨us, e2, e3⟩, ⟨ks, e4, e5⟩⟩ := pk_boat' hx hok
      walk_at "go"
      refine qb (q H (.refl _ _)) ?_
      have := e5.length
      simp [Sea.can, ht, this]
      cases t.unheard <;> simp
    | trade f2 t2 n =>
      have hst' : SqT K H p [.str "trade", .int f2, .int t2, .int n] := hst
      obtain ⟨y, t, hy, ht, ⟨dy, e1⟩, ⟨us, e2, e3⟩, ⟨ks, e4, e5⟩⟩ := pk_boat' hx hok.1
      walk_at "go"
      exact qb (q H (.refl _ _)) (by simp [Sea.can, ht])
def spLand (K : PySem.W.Frag) : Sp := fun vs H Q _ => ∃ k s b y t n c, vs = [.ref k.q, .ref y.1, .int n] ∧ PkAt K H k s ∧ k.bs[b]? = some y ∧ s.boats[b]? = some t ∧ s.Good c ∧ c ≤ 100000 ∧ ∀ H', PkAt K H' k (s.pre (.land b n)) → Off k.foot H H' → Q .non H'
theorem pk_ne {H : Hp} {k : Pk} {s : Sea} (x : PkAt K H k s) {i : Nat} {y : Addr × Addr × Addr} (h : k.bs[i]? = some y) :
    (k.q ∉ tri y ∧ k.p ∉ tri y ∧ k.bl ∉ tri y ∧ k.be ∉ tri y) ∧ (∀ a ∈ tri y, a ∈ k.foot) ∧ k.q ≠ k.be ∧ k.q ≠ k.p ∧ k.q ≠ k.bl ∧ k.p ≠ k.be ∧ k.bl ≠ k.be ∧ y.1 ≠ y.2.1 ∧ y.1 ≠ y.2.2 ∧ y.2.1 ≠ y.2.2 := by
  have nt := x.nt
  have nd := x.nd
  have hy : ∀ a ∈ tri y, a ∈ k.bs.flatMap tri := fun a ha => List.mem_flatMap.mpr ⟨y, List.mem_of_getElem? h, ha⟩
  have hn : (tri y).Nodup := (List.pairwise_flatMap.mp nt).1 y (List.mem_of_getElem? h)
  unfold Pk.foot at nd
  simp only [List.nodup_cons, List.mem_cons, not_or] at nd
  obtain ⟨⟨p1, p2, p3, n1⟩, ⟨p4, p5, n2⟩, ⟨p6, n3⟩, n4, _⟩ := nd
  simp only [tri, List.nodup_cons, List.mem_cons, List.not_mem_nil, or_false, not_or] at hn
  exact ⟨⟨fun z => n1 (hy _ z), fun z => n2 (hy _ z), fun z => n3 (hy _ z), fun z => n4 (hy _ z)⟩, fun a ha => by simp [Pk.foot, hy a ha], p3, p1, p2, p5, p6, hn.1.1, hn.1.2, hn.2.1⟩
theorem ok_Season_land (T : Txt P w K mg) : MthOk P w K mg base (He.ga K "Season") "land" 1 ["self", "boat", "amount"] (spLand K) := by
  refine T.m_Season_land.ok T.cl_Season sc_Season_land (fun _ _ _ _ _ _ us hl => match us, hl with | [_, _, _], _ => rfl) (fun vs H Q E h => ?_) (fun f cdv A outer s H vs Q E hr h => ?_)
  · obtain ⟨k, s, b, y, t, n, c, rfl, _⟩ := h
    rfl
  · obtain ⟨k, s, b, y, t, n, c, rfl, hx, hy, ht, hg, hc, q⟩ := h
    have B := T.blt
    have hu := hu_of hr
    have cl_Plan := T.cl_Plan
    have is_Plan := T.is_Plan
    have na_Plan_most := T.na_Plan_most
    have cl_Boat := T.cl_Boat
    have is_Boat := T.is_Boat
    have na_Boat_landed := T.na_Boat_landed
    have na_Boat_untold := T.na_Boat_untold
    have na_Boat_present := T.na_Boat_present
    have cl_Season := T.cl_Season
    have is_Season := T.is_Season
    have na_Season_plan := T.na_Season_plan
    have na_Season_now := T.na_Season_now
    have na_Season__beyond := T.na_Season__beyond
    refine ⟨_, (pss_cons (ps_fldaugK (K := K) rfl (pv 1) (pv 2) in_add)
  (pss_cons (ps_fldaugK (K := K) rfl (pv 1) (pv 2) in_add)
  (pss_cons (ps_expr (pe_bmK (K := K) rfl PySem.F.plainAttrs_list PySem.F.slot_list_append PySem.F.type_list_append mt_append (pe_fldK (K := K) rfl (pv 1) rfl) (pa_cons (pe_tup (pa_cons (pe_fldK (K := K) rfl (pv 0) rfl) (pa_cons (pv 2) pa_nil))) pa_nil)))
  (pss_one (ps_if (pt_cmpR op_gt (pe_fldK (K := K) rfl (pv 1) rfl) (pe_fldK (K := K) rfl (pe_fldK (K := K) rfl (pv 0) rfl) rfl) (nomark _))
    (pss_one (ps_dput hu (pe_fldK (K := K) rfl (pv 0) rfl) pe_str pe_bl rfl))
    pss_nil))))), ?_⟩
    obtain ⟨dq, h1⟩ := hx.hq
    obtain ⟨dp, h2⟩ := hx.hp
    obtain ⟨kvs, h3, h4⟩ := hx.hb
    obtain ⟨y', hy', ⟨dy, e1⟩, ⟨us, e2, e3⟩, ⟨ks, e4, e5⟩⟩ := pk_boat hx ht
    cases hy.symm.trans hy'
    obtain ⟨⟨n1, n2, n3, n4⟩, hf, n5, n6, n7, n8, n9, n10, n11, n12⟩ := pk_ne hx hy
    simp only [tri, List.mem_cons, List.not_mem_nil, or_false, not_or] at n1 n2 n3 n4
    obtain ⟨n1a, n1b, n1c⟩ := n1
    obtain ⟨n2a, n2b, n2c⟩ := n2
    obtain ⟨n4a, n4b, n4c⟩ := n4
    have hub := hg.ub t (List.mem_of_getElem? ht)
    have hlu := e3.length
    have hz : us.length < 1000000 := by omega
    walk_at "go"
    rename_i H1 l1 m1 H2 l2 m2 p0 hp0 H3 l3 m3
    have w1 : H3 p0 = some (.tup [.int s.now, .int n]) := m3.tups _ _ upd_same
    have lb := m3.at (by simpa using n10) (upd_new (o := .tup [.int s.now, .int n]) l2 hp0)
    have oN : Off (tri y) H H3 := ((((m1.trans m2).mono (by simp [tri])).new2 hp0).trans (m3.mono (by simp [tri])))
    have lk : H3 y.2.2 = some (.lst ks) := m3.at (by simpa using n12.symm) (upd_new (m2.at (by simpa using n11.symm) (m1.at (by simpa using n11.symm) e4)) hp0)
    have hx3 := hx.setB (t' := t.land s.now n) hy oN ⟨⟨dy, lb⟩, ⟨_, l3, (e3.off oN).append (.cons ⟨p0, rfl, w1⟩ .nil)⟩, ⟨ks, lk, e5.off oN⟩⟩
    have e8 : s.boats.set b (t.land s.now n) = s.boats.modify b (fun t => t.land s.now n) := (modify_set (f := fun t => t.land s.now n) ht).symm
    rw [e8] at hx3
    have lq := oN.at (a := k.q) (by simp [tri, n1a, n1b, n1c]) h1
    have le := oN.at (a := k.be) (by simp [tri, n4a, n4b, n4c]) h3
    have oF : Off k.foot H H3 := oN.mono hf
    have e10 : s.pre (.land b n) = { s with boats := s.boats.modify b (fun t => t.land s.now n), bm := s.bm || decide (s.most < t.present + n) } := by
      unfold Sea.pre
      simp [ht]
    rw [e10] at q
    refine br_d (fun b1 => ?_) (fun b1 => ?_)
    · have b1 : s.most < t.present + n := b1
      have e9 : (s.bm || decide (s.most < t.present + n)) = true := by rw [decide_eq_true b1, Bool.or_true]
      rw [e9] at q
      walk_at "go"
      refine g_dpA le rfl (by have := h4.len; rw [sizeLine_eq]; omega) fun H4 l4 m4 => ?_
      exact q H4 (hx3.setQ (m4.mono (by simp)) ⟨dq, m4.at (by simpa using n5) lq⟩ ⟨_, l4, h4.putM⟩) (oF.trans (m4.mono (by simp [Pk.foot])))
    · have b1 : ¬ s.most < t.present + n := b1
      have e9 : (s.bm || decide (s.most < t.present + n)) = s.bm := by rw [decide_eq_false b1, Bool.or_false]
      rw [e9] at q
      walk_at "go"
      exact q H3 hx3 oF
def spChg (K : PySem.W.Frag) : Sp := fun vs H Q _ => ∃ (k : Pk) (s : Sea) (b : Nat) (y : Addr × Addr × Addr) (t : Bt) (n : Int), vs = [.ref k.q, .ref y.1, .int n] ∧ PkAt K H k s ∧ k.bs[b]? = some y ∧ s.boats[b]? = some t ∧ t.unheard.length ≤ 1000000 ∧ ∀ H', PkAt K H' k { s with boats := s.boats.modify b fun t => t.change s.now n } → Off k.foot H H' → Q .non H'
theorem ok_Season_change (T : Txt P w K mg) : MthOk P w K mg base (He.ga K "Season") "change" 1 ["self", "boat", "amount"] (spChg K) := by
  refine T.m_Season_change.ok T.cl_Season sc_Season_change (fun _ _ _ _ _ _ us hl => match us, hl with | [_, _, _], _ => rfl) (fun vs H Q E h => ?_) (fun f cdv A outer s H vs Q E hr h => ?_)
  · obtain ⟨k, s, b, y, t, n, rfl, _⟩ := h
    rfl
  · obtain ⟨k, s, b, y, t, n, rfl, hx, hy, ht, hub, q⟩ := h
    have B := T.blt
    have hu := hu_of hr
    have cl_Plan := T.cl_Plan
    have is_Plan := T.is_Plan
    have cl_Boat := T.cl_Boat
    have is_Boat := T.is_Boat
    have na_Boat_right := T.na_Boat_right
    have na_Boat_unheard := T.na_Boat_unheard
    have cl_Season := T.cl_Season
    have is_Season := T.is_Season
    have na_Season_now := T.na_Season_now
    refine ⟨_, (pss_cons (ps_fldaugK (K := K) rfl (pv 1) (pv 2) in_add)
  (pss_one (ps_expr (pe_bmK (K := K) rfl PySem.F.plainAttrs_list PySem.F.slot_list_append PySem.F.type_list_append mt_append (pe_fldK (K := K) rfl (pv 1) rfl) (pa_cons (pe_tup (pa_cons (pe_fldK (K := K) rfl (pv 0) rfl) (pa_cons (pv 2) pa_nil))) pa_nil))))), ?_⟩
    obtain ⟨dq, h1⟩ := hx.hq
    obtain ⟨y', hy', ⟨dy, e1⟩, ⟨us, e2, e3⟩, ⟨ks, e4, e5⟩⟩ := pk_boat hx ht
    cases hy.symm.trans hy'
    obtain ⟨⟨n1, n2, n3, n4⟩, hf, n5, n6, n7, n8, n9, n10, n11, n12⟩ := pk_ne hx hy
    simp only [tri, List.mem_cons, List.not_mem_nil, or_false, not_or] at n1
    obtain ⟨n1a, n1b, n1c⟩ := n1
    have hlu := e5.length
    have hz : ks.length ≤ 1000000 := by omega
    walk_at "go"
    rename_i H2 l2 m2 p0 hp0 H3 l3 m3
    have w1 : H3 p0 = some (.tup [.int s.now, .int n]) := m3.tups _ _ upd_same
    have lb := m3.at (by simpa using n11) (upd_new (o := .tup [.int s.now, .int n]) l2 hp0)
    have oN : Off (tri y) H H3 := (((m2.mono (by simp [tri])).new2 hp0).trans (m3.mono (by simp [tri])))
    have lk : H3 y.2.1 = some (.lst us) := m3.at (by simpa using n12) (upd_new (m2.at (by simpa using n10.symm) e2) hp0)
    have hx3 := hx.setB (t' := t.change s.now n) hy oN ⟨⟨dy, lb⟩, ⟨us, lk, e3.off oN⟩, ⟨_, l3, (e5.off oN).append (.cons ⟨p0, rfl, w1⟩ .nil)⟩⟩
    have e8 : s.boats.set b (t.change s.now n) = s.boats.modify b (fun t => t.change s.now n) := (modify_set (f := fun t => t.change s.now n) ht).symm
    rw [e8] at hx3
    exact q H3 hx3 (oN.mono hf)
def spLate (K : PySem.W.Frag) : Sp := fun vs H Q _ => ∃ (k : Pk) (s : Sea) (b : Nat) (y : Addr × Addr × Addr) (t : Bt), vs = [.ref k.q, .ref y.1] ∧ PkAt K H k s ∧ k.bs[b]? = some y ∧ s.boats[b]? = some t ∧ t.untold.length + t.unheard.length ≤ 1000000 ∧ ∀ H', Off [] H H' → Q (.bl (t.isLate (s.now - s.late))) H'
theorem ok_Season_is_late (T : Txt P w K mg) : MthOk P w K mg base (He.ga K "Season") "is_late" 1 ["self", "boat"] (spLate K) := by
  refine T.m_Season_is_late.ok T.cl_Season sc_Season_is_late (fun _ _ _ _ _ _ us hl => match us, hl with | [_, _], _ => rfl) (fun vs H Q E h => ?_) (fun f cdv A outer s H vs Q E hr h => ?_)
  · obtain ⟨k, s, b, y, t, rfl, _⟩ := h
    rfl
  · obtain ⟨k, s, b, y, t, rfl, hx, hy, ht, hub, q⟩ := h
    have B := T.blt
    have hu := hu_of hr
    have cl_Plan := T.cl_Plan
    have is_Plan := T.is_Plan
    have na_Plan_late := T.na_Plan_late
    have cl_Boat := T.cl_Boat
    have is_Boat := T.is_Boat
    have na_Boat_untold := T.na_Boat_untold
    have na_Boat_unheard := T.na_Boat_unheard
    have cl_Season := T.cl_Season
    have is_Season := T.is_Season
    have na_Season_plan := T.na_Season_plan
    have na_Season_now := T.na_Season_now
    refine ⟨_, (pss_one (ps_ret (pe_callB (cr_anyK (K := K) rfl rfl) (by rfl) B.b_any (by decide +kernel) (pa_cons (pe_lc (own := [("tick", 2), ("amount", 3)]) rfl sc_Season_is_late.nd (pi_listK (K := K) rfl (pe_op op_cat (pe_fldK (K := K) rfl (pv 1) rfl) (pe_fldK (K := K) rfl (pv 1) rfl))) (blkOk_by (own := [("tick", 2), ("amount", 3)]) (N := ["self", "boat", "tick", "amount"]) (sc := defScope s_Season_is_late) (by decide +kernel)) (fun _ _ _ _ _ => (pg_tupK (K := K) (n := 2) rfl rfl (pgs_cons (pg_name (i := 2) sc_Season_is_late.nd rfl (by first | exact Or.inl rfl | exact Or.inr rfl)) (pgs_cons (pg_name (i := 3) sc_Season_is_late.nd rfl (by first | exact Or.inl rfl | exact Or.inr rfl)) pgs_nil)))) (fun _ _ _ _ _ => pts_nil) (fun _ _ _ _ _ => (pe_cmpR op_le (pv 2) (pe_op op_sub (pe_fldK (K := K) rfl (pv 0) rfl) (pe_fldK (K := K) rfl (pe_fldK (K := K) rfl (pv 0) rfl) rfl)) (nomark _)))) pa_nil)))), ?_⟩
    obtain ⟨dq, h1⟩ := hx.hq
    obtain ⟨dp, h2⟩ := hx.hp
    obtain ⟨y', hy', ⟨dy, e1⟩, ⟨us, e2, e3⟩, ⟨ks, e4, e5⟩⟩ := pk_boat hx ht
    cases hy.symm.trans hy'
    have hlu := e3.length
    have hlk := e5.length
    have hz : us.length + ks.length ≤ 1000000 := by omega
    walk_at "go"
    rename_i q1 hq1
    have g6 : RowsR (upd H q1 (.lst (us ++ ks))) (us ++ ks) (t.untold ++ t.unheard) := (e3.append e5).off (S := []) (.new hq1)
    have oA : Off [] H (upd H q1 (.lst (us ++ ks))) := .new hq1
    have hlr := g6.length
    refine lcL_at ((t.untold ++ t.unheard).map fun r => V.bl (decide (r.1 ≤ s.now - s.late))) (.of upd_same) (by rw [List.length_map]; exact hlr.symm) (by rw [List.length_append, sizeLine_eq]; omega) ?_ ?_
    · intro i x y2 H1 hxi hyi o1 M N kk
      obtain ⟨r, hr1, pr, rfl, hp⟩ := g6.get hxi
      have ey : y2 = V.bl (decide (r.1 ≤ s.now - s.late)) := by
        rw [List.getElem?_map, hr1] at hyi
        exact (Option.some.inj hyi).symm
      subst ey
      have j1 := (oA.trans o1).at nin_nil h1
      have j2 := (oA.trans o1).at nin_nil h2
      have j3 := o1.tups _ _ hp
      walk_at "go"
      refine ⟨rfl, ?_⟩
      walk_at "go"
      exact kk _ (.refl _ _)
    · intro D H1 hD o1 e6
      walk_at "go"
      refine ⟨D, (t.untold ++ t.unheard).map (fun r => decide (r.1 ≤ s.now - s.late)), rfl, .of (by rw [e6, List.map_map]; rfl), ?_⟩
      have ez : ((t.untold ++ t.unheard).map fun r => decide (r.1 ≤ s.now - s.late)).any id = t.isLate (s.now - s.late) := by
        rw [List.any_map]; rfl
      rw [ez]
      exact q _ (oA.trans o1)
end
end SH
end

section
/-! #### the walk's words -/
local macro_rules | `(tactic| walk_at "ne0") => `(tactic| first
  | assumption
  | (refine Ne.symm ?_; assumption))
local macro_rules | `(tactic| walk_at "ne") => `(tactic| first
  | assumption
  | (refine Ne.symm ?_; assumption)
  | (refine' L2.ne_of_none ?gx (by assumption); (case gx => walk_at "hp"))
  | (refine' Ne.symm (L2.ne_of_none ?gx (by assumption)); (case gx => walk_at "hp")))
local macro_rules | `(tactic| walk_at "hp") => `(tactic| first
  | assumption
  | exact L2.upd_same
  | (refine' SH.upd_new ?gh (by assumption); (case gh => walk_at "hp"))
  | (refine' (L2.upd_ne ?gn).trans ?gh; (case gn => walk_at "ne0"); (case gh => walk_at "hp"))
  | (refine' SH.Off.at (by assumption) ?gn ?gh; (case gn => walk_at "nin"); (case gh => walk_at "hp")))
local macro_rules | `(tactic| walk_at "nin") => `(tactic| first
  | exact SH.nin_nil
  | (refine SH.nin_cons ?_ ?_; (· walk_at "ne0"); (· walk_at "nin")))
local macro_rules | `(tactic| walk_at "sq") => `(tactic| first
  | assumption
  | (apply L2.SqL.of; (· walk_at "hp"))
  | (apply L2.SqT.of; (· walk_at "hp"))
  | (refine' SH.seqT_new ?gx (by assumption); (case gx => walk_at "sq"))
  | (refine' SH.seqL_new ?gx (by assumption); (case gx => walk_at "sq"))
  | (refine' SH.Off.seqT (by assumption) ?gx; (case gx => walk_at "sq"))
  | (refine' SH.Off.seqL (by assumption) ?gy ?gx; (case gx => walk_at "sq"); (case gy => walk_at "nin")))
local macro_rules | `(tactic| walk_at "kd") => `(tactic| first
  | assumption | exact SH.KdV.int _ | exact SH.KdV.bl _ | exact SH.KdV.str _ | exact SH.KdV.non
  | (apply SH.KdV.tup; (· walk_at "sq")) | (apply SH.KdV.lst; (· walk_at "sq")))
/-- a way that cannot be -/
local macro_rules | `(tactic| walk_at "no") => `(tactic| (exfalso; first | assumption | omega | contradiction | (simp_all; done)))
/-- one step -/
local macro_rules | `(tactic| walk_at "g1") => `(tactic| with_reducible first
  | refine SH.g_var (by with_unfolding_all rfl) ?_ | refine SH.g_c ?_ | refine SH.g_op ?_ | refine SH.g_un ?_ | refine SH.g_I0 ?_ | refine SH.g_U ?_
  | refine SH.g_eqI ?_ | refine SH.g_neI ?_ | refine SH.g_eqS ?_ | refine SH.g_neS ?_
  | refine SH.g_test ?_ | refine SH.g_B ?_ | refine SH.g_isB ?_ | refine SH.g_and ?_ | refine SH.g_or ?_ | refine SH.g_not ?_ | refine SH.g_andV ?_ | refine SH.g_orV ?_ | refine SH.g_notV ?_ | refine SH.g_ifE ?_ | refine SH.g_chain ?_
  | refine SH.g_nil ?_ | refine SH.g_cons ?_ | refine SH.g_tup ?_ | refine SH.g_lst ?_ | refine SH.g_call ?_ | refine SH.g_fld ?_ | refine SH.g_meth ?_ | refine SH.g_make ?_ | refine SH.g_cb ?_ | refine SH.g_bm ?_
  | refine SH.g_seq ?_ | refine SH.g_asg ?_ | refine SH.g_name ?_ | refine SH.g_drop ?_ | refine SH.g_ret ?_ | refine SH.g_retN ?_ | refine SH.g_next ?_ | refine SH.g_brk ?_ | refine SH.g_cnt ?_ | refine SH.g_ifs ?_ | refine SH.g_par ?_ | refine SH.g_par2 ?_ | refine SH.g_fldS ?_ | refine SH.g_raise ?_ | refine SH.g_rs ?_
  | refine SH.g_sub ?_ | refine SH.g_yes ?_ | refine SH.g_sl ?_ | refine SH.g_noPart ?_ | refine SH.g_part ?_ | refine SH.g_intO ?_ | refine SH.g_dget ?_ | refine SH.g_dput ?_ | refine SH.g_forR ?_ | refine SH.g_forL ?_ | refine SH.g_forT ?_ | refine SH.g_lcR ?_ | refine SH.g_lcL ?_ | refine SH.g_lcT ?_ | refine SH.g_gcons ?_ | refine SH.g_gnil ?_
  | refine SH.br_t ?_ | refine SH.br_f ?_
  | refine SH.g_int ?_ | refine SH.g_abs ?_ | refine SH.g_max2 ?_ | refine SH.g_min2 ?_)
local macro_rules | `(tactic| walk_at "g2") => `(tactic| first
  | walk_at "g1"
  | ((with_reducible refine' SH.g_isiInt ?ga ?gz); (case ga => walk_at "kd"))
  | ((with_reducible refine' SH.g_isiBool ?ga ?gz); (case ga => walk_at "kd"))
  | ((with_reducible refine' SH.g_isiStr ?ga ?gz); (case ga => walk_at "kd"))
  | ((with_reducible refine' SH.g_isiTup ?ga ?gz); (case ga => walk_at "kd"))
  | ((with_reducible refine' SH.g_ixT ?ga ?gb ?gz); (case ga => walk_at "sq"); (case gb => rfl))
  | ((with_reducible refine' SH.g_ixL ?ga ?gb ?gz); (case ga => walk_at "sq"); (case gb => first | rfl | (apply SH.atI_refs; assumption)))
  | ((with_reducible refine SH.br_F ?_ ?_); (· decide +kernel)) | ((with_reducible refine SH.br_T ?_ ?_); (· decide +kernel)) | ((with_reducible refine SH.br_NF ?_ ?_); (· decide +kernel)) | ((with_reducible refine SH.br_NT ?_ ?_); (· decide +kernel))
  | ((with_reducible refine' SH.g_gtup ?ga ?gb ?gz); (case ga => walk_at "sq"); (case gb => rfl))
  | ((with_reducible refine' SH.g_lenT ?ga ?gz); (case ga => walk_at "sq"))
  | ((with_reducible refine' SH.g_lenL ?ga ?gz); (case ga => walk_at "sq"))
  | ((with_reducible refine SH.g_mkT (SH.sz rfl) ?_); intro _ _)
  | ((with_reducible refine SH.g_mkL (SH.sz rfl) ?_); intro _ _)
  | ((with_reducible refine SH.g_dnew ?_); intro _ _)
  | ((with_reducible refine' SH.g_tupL ?ga ?gz); (case ga => walk_at "sq"); intro _ _)
  | ((with_reducible refine' SH.g_lstL ?ga ?gz); (case ga => walk_at "sq"); intro _ _)
  | ((with_reducible refine' SH.g_lstT ?ga ?gz); (case ga => walk_at "sq"); intro _ _)
  | ((with_reducible refine' SH.g_dgR ?ga ?gb ?gz); (case ga => walk_at "hp"); (case gb => walk_at "dv"))
  | ((with_reducible refine' SH.g_fldR ?ga ?gb ?gc ?gd ?gz); (case ga => walk_at "hp"); (case gb => walk_at "cl"); (case gc => walk_at "na"); (case gd => walk_at "fv"))
  | ((with_reducible refine' SH.g_insR ?ga ?gb ?gz); (case ga => walk_at "hp"); (case gb => walk_at "fn"))
  | ((with_reducible refine' SH.g_setL ?ga ?gb ?gz); (case ga => walk_at "hp"); (case gb => rfl))
  | ((with_reducible refine SH.g_I ?_ ?_); (· walk_at "ci"))
  | ((with_reducible refine' SH.g_slL ?ga ?gz); (case ga => walk_at "sq"); intro _ _)
  | ((with_reducible refine' SH.g_cat ?ga ?gb ?gc ?gz); (case ga => walk_at "hp"); (case gb => walk_at "hp"); (case gc => walk_at "ls"); intro _ _))
/-- the side conditions of numbers: a divisor, a factor -/
local macro_rules | `(tactic| walk_at "ci") => `(tactic| first
  | (show _ ≠ _; omega) | (show _ < _; omega) | (constructor <;> omega) | (refine Or.inr ⟨?_, ?_⟩ <;> (show _ < _; omega)) | (refine Or.inl ⟨?_, ?_⟩ <;> (show _ < _; omega)) | (refine ⟨?_, ?_, ?_⟩ <;> decide))
local macro_rules | `(tactic| walk_at "ls") => `(tactic| first | (show _ ≤ _; exact Nat.le_trans (by assumption) (by decide)) | (show _ ≤ _; exact Nat.le_trans (by simp; omega) (by decide : 1000 ≤ sizeLine)))
local macro_rules | `(tactic| walk_at "dv") => `(tactic| rfl)
local macro_rules | `(tactic| walk_at "fv") => `(tactic| rfl)
local macro_rules | `(tactic| walk_at "fn") => `(tactic| rfl)
local macro_rules | `(tactic| walk_at "cl") => `(tactic| assumption)
local macro_rules | `(tactic| walk_at "na") => `(tactic| assumption)
local macro_rules | `(tactic| walk_at "go") => `(tactic| repeat walk_at "g2")
/-- a way is split -/
local macro_rules | `(tactic| walk_at "br") => `(tactic| with_reducible first
  | refine SH.br_d (fun _ => ?_) (fun _ => ?_) | refine SH.br_nd (fun _ => ?_) (fun _ => ?_) | refine SH.br_b (fun _ => ?_) (fun _ => ?_))
/-- all ways -/
local macro_rules | `(tactic| walk_at "all") => `(tactic| repeat' first | walk_at "g2" | (walk_at "br" <;> try (walk_at "no")))
/-- a truth value is the other -/
local macro_rules | `(tactic| walk_at "bq") => `(tactic| first | rfl | (simp_all; done) | (simp_all; omega) | (simp only [decide_eq_true_eq, decide_eq_false_iff_not, Bool.and_eq_true, Bool.or_eq_true] at *; omega))
/-- what was tracked is as it was -/
local macro_rules | `(tactic| walk_at "of") => `(tactic| first
  | assumption
  | exact SH.Off.refl _ _
  | (refine' SH.Off.new2 ?gx (by assumption); (case gx => walk_at "of"))
  | (refine' SH.Off.mut ?gx (by assumption); (case gx => walk_at "of"))
  | (refine' SH.Off.trans' ?gx (by assumption) ?gy; (case gy => (intro _ h; (first | exact h | (simp at h; done) | (simp at h ⊢; simp [h]; done)))); (case gx => walk_at "of")))
/-- the own season's dicts -/
local macro_rules | `(tactic| walk_at "dv") => `(tactic| with_reducible first
  | exact SH.bk_right | exact SH.bk_heard | exact SH.bk_landed | exact SH.bk_told | exact SH.bk_untold | exact SH.bk_unheard | exact SH.bk_present
  | exact SH.ok_own | exact SH.ok_now | exact SH.ok_boats | exact SH.ok_broken | exact SH.ok_beyond)
local macro_rules | `(tactic| walk_at "dw") => `(tactic| with_reducible first
  | exact SH.bp_right | exact SH.bp_heard | exact SH.bp_landed | exact SH.bp_told | exact SH.bp_untold | exact SH.bp_unheard | exact SH.bp_present
  | exact SH.op_now | exact SH.op_broken | exact SH.op_beyond)
local macro_rules | `(tactic| walk_at "g2") => `(tactic|
  ((with_reducible refine' SH.g_dpA ?ga ?gb ?gc ?gz); (case ga => walk_at "hp"); (case gb => walk_at "dw"); (case gc => exact SH.szk rfl); intro _ _ _))
local macro_rules | `(tactic| walk_at "sq") => `(tactic|
  ((refine' SH.seqT_put ?gx ?gy ?gz); (case gy => walk_at "hp"); (case gz => exact trivial); (case gx => walk_at "sq")))
local macro_rules | `(tactic| walk_at "g2") => `(tactic|
  ((with_reducible refine' SH.g_ixL ?ga ?gb ?gz); (case ga => walk_at "sq"); (case gb => first | rfl | (apply SH.atI_refs; assumption) | exact SH.atI_cons0)))
/-- the package's season: its instances -/
local macro_rules | `(tactic| walk_at "fv") => `(tactic| with_reducible first
  | exact SH.bf_right | exact SH.bf_heard | exact SH.bf_landed | exact SH.bf_told | exact SH.bf_untold | exact SH.bf_unheard | exact SH.bf_present
  | exact SH.pf_shares | exact SH.pf_most | exact SH.pf_late | exact SH.pf_reserve
  | exact SH.sf_plan | exact SH.sf_now | exact SH.sf_boats | exact SH.sf_broken | exact SH.sf_beyond)
local macro_rules | `(tactic| walk_at "fp") => `(tactic| with_reducible first
  | exact SH.bq_right | exact SH.bq_heard | exact SH.bq_landed | exact SH.bq_told | exact SH.bq_present | exact SH.sq_now | exact SH.sq_broken)
local macro_rules | `(tactic| walk_at "fn") => `(tactic| kernel_rfl)
local macro_rules | `(tactic| walk_at "lt") => `(tactic| (rw [PySem.sizeLine_eq]; omega))
local macro_rules | `(tactic| walk_at "g2") => `(tactic| first
  | (with_reducible first | refine SH.br_ntt ?_ | refine SH.br_ntf ?_ | refine SH.br_k ?_ | refine SH.br_nk ?_ | refine SH.g_fldAug ?_ | refine SH.g_rAdd ?_ | refine SH.g_rSub ?_)
  | ((with_reducible refine SH.br_inF ?_ ?_); (· decide +kernel)) | ((with_reducible refine SH.br_inT ?_ ?_); (· decide +kernel))
  | ((with_reducible refine' SH.g_inT ?ga ?gb ?gc ?gz); (case ga => walk_at "sq"); (case gb => exact rfl); (case gc => kernel_rfl))
  | ((with_reducible refine' SH.g_stA ?ga ?gb ?gc ?gd ?ge ?gz); (case ga => walk_at "hp"); (case gb => walk_at "cl"); (case gc => walk_at "na"); (case gd => walk_at "fp"); (case ge => exact SH.szf rfl); intro _ _ _)
  | ((with_reducible refine' SH.g_augR ?ga ?gb ?gc ?gd ?gz); (case ga => walk_at "hp"); (case gb => walk_at "cl"); (case gc => walk_at "na"); (case gd => walk_at "fv"))
  | ((with_reducible refine' SH.g_putC ?ga ?gb ?gc ?gz); (case ga => walk_at "hp"); (case gb => walk_at "fp"); (case gc => exact SH.szf rfl); intro _ _ _)
  | ((with_reducible refine' SH.g_app' ?ga ?gb ?gz); (case ga => walk_at "hp"); (case gb => walk_at "lt"); intro _ _ _)
  | ((with_reducible refine' SH.g_popF ?ga ?gz); (case ga => walk_at "hp"); intro _ _ _)
  | ((with_reducible refine' SH.g_bml ?ga ?gz); (case ga => walk_at "sq"))
  | ((with_reducible refine' SH.g_isiSelf ?ga ?gb ?gc ?gz); (case ga => walk_at "hp"); (case gb => walk_at "cl"); (case gc => walk_at "cl")))
local macro_rules | `(tactic| walk_at "g2") => `(tactic|
  ((with_reducible refine' SH.g_ixL ?ga ?gb ?gz); (case ga => walk_at "sq"); (case gb => first | rfl | (apply SH.atI_refs; assumption) | exact SH.atI_cons0 | (apply SH.atI_bs; assumption))))
namespace SH
open PySem PySem.Spec PyProof.Rows L2
def spTick (K : PySem.W.Frag) : Sp := fun vs H Q _ => ∃ (k : Pk) (s : Sea) (c : Nat), vs = [.ref k.q] ∧ PkAt K H k s ∧ s.Good c ∧ c ≤ 100000 ∧ ∀ H', PkAt K H' k (s.do' .tick) → Off k.foot H H' → Q .non H'
section
variable {P : Program} {w : World} {K : PySem.W.Frag} {mg : Str → Option Value} {base : Heap}
theorem ok_Season_pass_tick (T : Txt P w K mg) : MthOk P w K mg base (He.ga K "Season") "pass_tick" 2 ["self"] (spTick K) := by
  refine T.m_Season_pass_tick.ok T.cl_Season sc_Season_pass_tick (fun _ _ _ _ _ _ us hl => match us, hl with | [_], _ => rfl) (fun vs H Q E h => ?_) (fun f cdv A outer s H vs Q E hr h => ?_)
  · obtain ⟨k, s, c, rfl, _⟩ := h
    rfl
  · obtain ⟨k, s, c, rfl, hx, hg, hc, q⟩ := h
    have B := T.blt
    have hu := hu_of hr
    have G_Season_is_late := ok_Season_is_late (base := base) T
    have cl_Plan := T.cl_Plan
    have is_Plan := T.is_Plan
    have cl_Boat := T.cl_Boat
    have is_Boat := T.is_Boat
    have na_Boat_present := T.na_Boat_present
    have cl_Season := T.cl_Season
    have is_Season := T.is_Season
    have na_Season_now := T.na_Season_now
    have na_Season__boats := T.na_Season__boats
    have na_Season__beyond := T.na_Season__beyond
    refine ⟨_, (pss_cut (ps_if (pt_val (pe_callB (cr_anyK (K := K) rfl rfl) (by rfl) B.b_any (by decide +kernel) (pa_cons (pe_lc (own := [("boat", 1)]) rfl sc_Season_pass_tick.nd (pi_listK (K := K) rfl (pe_fldK (K := K) rfl (pv 0) rfl)) (blkOk_by (own := [("boat", 1)]) (N := ["self", "boat"]) (sc := defScope s_Season_pass_tick) (by decide +kernel)) (fun _ _ _ _ _ => (pg_name (i := 1) sc_Season_pass_tick.nd rfl (by first | exact Or.inl rfl | exact Or.inr rfl))) (fun _ _ _ _ _ => pts_nil) (fun _ _ _ _ _ => (pe_mth G_Season_is_late (hr.mono (by decide)) passN (pv 0) (pa_cons (pv 1) pa_nil)))) pa_nil)) (by intro _; rfl))
    (pss_one (ps_dput hu (pe_fldK (K := K) rfl (pv 0) rfl) pe_str pe_bl rfl))
    pss_nil)
  (pss_cons (ps_fldaugK (K := K) rfl (pv 0) pe_int in_add)
  (pss_one (ps_for (passes_of rfl) rfl (pi_listK (K := K) rfl (pe_fldK (K := K) rfl (pv 0) rfl)) (pg_name (i := 1) sc_Season_pass_tick.nd rfl (by first | exact Or.inl rfl | exact Or.inr rfl))
    (pss_one (ps_fldK (K := K) rfl (pv 1) pe_int rfl)))))), ?_⟩
    obtain ⟨dq, h1⟩ := hx.hq
    have hl := hx.hl
    obtain ⟨kvs, h3, h4⟩ := hx.hb
    have hlen := Paired.length hx.boats
    have hb5 : k.bs.length ≤ 5 := by have := hg.len; have := hg.plan.n1; omega
    refine g_cut (fun σ H' => σ = [some (.ref k.q), none] ∧ PkAt K H' k { s with bl := s.bl || s.boats.any fun t => t.isLate (s.now - s.late) } ∧ Off k.foot H H') ?_ ?_
    · walk_at "go"
      refine lcL_at (s.boats.map fun t => V.bl (t.isLate (s.now - s.late))) (.of hl) (by rw [List.length_map, List.length_map, hlen]) (by rw [List.length_map, sizeLine_eq]; omega) ?_ ?_
      · intro i x y2 H1 hxi hyi o1 M N kk
        obtain ⟨y, hy, rfl⟩ : ∃ y, k.bs[i]? = some y ∧ V.ref y.1 = x := by simpa using hxi
        obtain ⟨t, ht, rfl⟩ : ∃ t, s.boats[i]? = some t ∧ V.bl (t.isLate (s.now - s.late)) = y2 := by simpa using hyi
        have hx1 := hx.off o1 (by simp)
        obtain ⟨d1, j1⟩ := hx1.hq
        have hub := hg.ub t (List.mem_of_getElem? ht)
        walk_at "go"
        refine ⟨rfl, ?_⟩
        walk_at "go"
        exact ⟨k, s, i, y, t, rfl, hx1, hy, ht, by omega, fun H2 o2 => kk _ o2⟩
      · intro D H1 hD o1 e6
        have hx1 := hx.off o1 (by simp)
        obtain ⟨d1, j1⟩ := hx1.hq
        obtain ⟨kvs, j3, j4⟩ := hx1.hb
        walk_at "go"
        refine ⟨D, s.boats.map (fun t => t.isLate (s.now - s.late)), rfl, .of (by rw [e6, List.map_map]; rfl), ?_⟩
        have ez : (s.boats.map fun t => t.isLate (s.now - s.late)).any id = s.boats.any fun t => t.isLate (s.now - s.late) := by
          rw [List.any_map]; rfl
        rw [ez]
        walk_at "go"
        refine br_b (fun b1 => ?_) (fun b1 => ?_)
        · walk_at "go"
          refine g_dpA j3 rfl (by have := j4.len; rw [sizeLine_eq]; omega) fun H4 l4 m4 => ?_
          refine ⟨rfl, ?_, (o1.mono (by simp)).trans (m4.mono (by simp [Pk.foot]))⟩
          rw [b1, Bool.or_true]
          have nq : k.q ≠ k.be := fun z => by rw [z, j3] at j1; cases j1
          exact hx1.setQ (m4.mono (by simp)) ⟨d1, m4.at (by simpa using nq) j1⟩ ⟨_, l4, j4.putL⟩
        · walk_at "go"
          refine ⟨rfl, ?_, o1.mono (by simp)⟩
          rw [b1, Bool.or_false]
          exact hx1
    · rintro σ H' ⟨rfl, hx2, o2⟩
      obtain ⟨d2, j1⟩ := hx2.hq
      obtain ⟨kvs2, j3, j4⟩ := hx2.hb
      have jl := hx2.hl
      have nq : k.be ≠ k.q := fun z => by rw [← z, j3] at j1; cases j1
      walk_at "go"
      rename_i H3 l3 m3
      have hx3 := hx2.setQ (m3.mono (by simp)) ⟨d2, l3⟩ ⟨_, m3.at (by simpa using nq) j3, j4⟩
      have jl3 := hx3.hl
      walk_at "go"
      refine forL_mk (fun i σ H' => ∃ bx, σ = [some (.ref k.q), bx] ∧ PkAt K H' k { s with now := s.now + 1, bl := s.bl || (s.boats.any fun t => t.isLate (s.now - s.late)), boats := (s.boats.take i).map (fun t => { t with present := 0 }) ++ s.boats.drop i } ∧ Off k.foot H H') (.of jl3)
        ⟨none, rfl, hx3, o2.trans (m3.mono (by simp [Pk.foot]))⟩ ?_ ?_ ?_
      · rintro i σ H' hi ⟨bx, _, hz, _⟩
        exact .of hz.hl
      · rintro i x σ H' hi ⟨bx, rfl, hz, oz⟩
        obtain ⟨y, hy, rfl⟩ : ∃ y, k.bs[i]? = some y ∧ V.ref y.1 = x := by simpa using hi
        have hib : i < k.bs.length := (List.getElem?_eq_some_iff.mp hy).1
        have hit : s.boats[i]? = some (s.boats[i]'(by omega)) := List.getElem?_eq_getElem _
        obtain ⟨m1, m2⟩ := map_upto (z := fun t : Bt => { t with present := 0 }) hit
        obtain ⟨y', hy', ⟨dy, e1⟩, e2, e3⟩ := pk_boat hz m1
        cases hy.symm.trans hy'
        obtain ⟨_, hf, _, _, _, _, _, n10, n11, n12⟩ := pk_ne hz hy
        walk_at "go"
        rename_i H5 l1 l2
        have hw := hz.setB (t' := { (s.boats[i]'(by omega)) with present := 0 }) hy (l2.mono (by simp [tri])) ⟨⟨dy, l1⟩, e2.off l2 (by simpa using n10.symm), e3.off l2 (by simpa using n11.symm)⟩
        refine ⟨_, rfl, ?_, oz.trans (l2.mono (by simpa using hf y.1 (by simp [tri])))⟩
        rw [m2] at hw
        exact hw
      · rintro σ H' ⟨bx, rfl, hz, oz⟩
        walk_at "go"
        refine q _ ?_ oz
        rw [List.length_map, hlen, List.take_length, List.drop_length, List.append_nil] at hz
        exact hz
end
end SH
end

section
/-! #### the walk's words -/
local macro_rules | `(tactic| walk_at "ne0") => `(tactic| first
  | assumption
  | (refine Ne.symm ?_; assumption))
local macro_rules | `(tactic| walk_at "ne") => `(tactic| first
  | assumption
  | (refine Ne.symm ?_; assumption)
  | (refine' L2.ne_of_none ?gx (by assumption); (case gx => walk_at "hp"))
  | (refine' Ne.symm (L2.ne_of_none ?gx (by assumption)); (case gx => walk_at "hp")))
local macro_rules | `(tactic| walk_at "hp") => `(tactic| first
  | assumption
  | exact L2.upd_same
  | (refine' SH.upd_new ?gh (by assumption); (case gh => walk_at "hp"))
  | (refine' (L2.upd_ne ?gn).trans ?gh; (case gn => walk_at "ne0"); (case gh => walk_at "hp"))
  | (refine' SH.Off.at (by assumption) ?gn ?gh; (case gn => walk_at "nin"); (case gh => walk_at "hp")))
local macro_rules | `(tactic| walk_at "nin") => `(tactic| first
  | exact SH.nin_nil
  | (refine SH.nin_cons ?_ ?_; (· walk_at "ne0"); (· walk_at "nin")))
local macro_rules | `(tactic| walk_at "sq") => `(tactic| first
  | assumption
  | (apply L2.SqL.of; (· walk_at "hp"))
  | (apply L2.SqT.of; (· walk_at "hp"))
  | (refine' SH.seqT_new ?gx (by assumption); (case gx => walk_at "sq"))
  | (refine' SH.seqL_new ?gx (by assumption); (case gx => walk_at "sq"))
  | (refine' SH.Off.seqT (by assumption) ?gx; (case gx => walk_at "sq"))
  | (refine' SH.Off.seqL (by assumption) ?gy ?gx; (case gx => walk_at "sq"); (case gy => walk_at "nin")))
local macro_rules | `(tactic| walk_at "kd") => `(tactic| first
  | assumption | exact SH.KdV.int _ | exact SH.KdV.bl _ | exact SH.KdV.str _ | exact SH.KdV.non
  | (apply SH.KdV.tup; (· walk_at "sq")) | (apply SH.KdV.lst; (· walk_at "sq")))
/-- a way that cannot be -/
local macro_rules | `(tactic| walk_at "no") => `(tactic| (exfalso; first | assumption | omega | contradiction | (simp_all; done)))
/-- one step -/
local macro_rules | `(tactic| walk_at "g1") => `(tactic| with_reducible first
  | refine SH.g_var (by with_unfolding_all rfl) ?_ | refine SH.g_c ?_ | refine SH.g_op ?_ | refine SH.g_un ?_ | refine SH.g_I0 ?_ | refine SH.g_U ?_
  | refine SH.g_eqI ?_ | refine SH.g_neI ?_ | refine SH.g_eqS ?_ | refine SH.g_neS ?_
  | refine SH.g_test ?_ | refine SH.g_B ?_ | refine SH.g_isB ?_ | refine SH.g_and ?_ | refine SH.g_or ?_ | refine SH.g_not ?_ | refine SH.g_andV ?_ | refine SH.g_orV ?_ | refine SH.g_notV ?_ | refine SH.g_ifE ?_ | refine SH.g_chain ?_
  | refine SH.g_nil ?_ | refine SH.g_cons ?_ | refine SH.g_tup ?_ | refine SH.g_lst ?_ | refine SH.g_call ?_ | refine SH.g_fld ?_ | refine SH.g_meth ?_ | refine SH.g_make ?_ | refine SH.g_cb ?_ | refine SH.g_bm ?_
  | refine SH.g_seq ?_ | refine SH.g_asg ?_ | refine SH.g_name ?_ | refine SH.g_drop ?_ | refine SH.g_ret ?_ | refine SH.g_retN ?_ | refine SH.g_next ?_ | refine SH.g_brk ?_ | refine SH.g_cnt ?_ | refine SH.g_ifs ?_ | refine SH.g_par ?_ | refine SH.g_par2 ?_ | refine SH.g_fldS ?_ | refine SH.g_raise ?_ | refine SH.g_rs ?_
  | refine SH.g_sub ?_ | refine SH.g_yes ?_ | refine SH.g_sl ?_ | refine SH.g_noPart ?_ | refine SH.g_part ?_ | refine SH.g_intO ?_ | refine SH.g_dget ?_ | refine SH.g_dput ?_ | refine SH.g_forR ?_ | refine SH.g_forL ?_ | refine SH.g_forT ?_ | refine SH.g_lcR ?_ | refine SH.g_lcL ?_ | refine SH.g_lcT ?_ | refine SH.g_gcons ?_ | refine SH.g_gnil ?_
  | refine SH.br_t ?_ | refine SH.br_f ?_
  | refine SH.g_int ?_ | refine SH.g_abs ?_ | refine SH.g_max2 ?_ | refine SH.g_min2 ?_)
local macro_rules | `(tactic| walk_at "g2") => `(tactic| first
  | walk_at "g1"
  | ((with_reducible refine' SH.g_isiInt ?ga ?gz); (case ga => walk_at "kd"))
  | ((with_reducible refine' SH.g_isiBool ?ga ?gz); (case ga => walk_at "kd"))
  | ((with_reducible refine' SH.g_isiStr ?ga ?gz); (case ga => walk_at "kd"))
  | ((with_reducible refine' SH.g_isiTup ?ga ?gz); (case ga => walk_at "kd"))
  | ((with_reducible refine' SH.g_ixT ?ga ?gb ?gz); (case ga => walk_at "sq"); (case gb => rfl))
  | ((with_reducible refine' SH.g_ixL ?ga ?gb ?gz); (case ga => walk_at "sq"); (case gb => first | rfl | (apply SH.atI_refs; assumption)))
  | ((with_reducible refine SH.br_F ?_ ?_); (· decide +kernel)) | ((with_reducible refine SH.br_T ?_ ?_); (· decide +kernel)) | ((with_reducible refine SH.br_NF ?_ ?_); (· decide +kernel)) | ((with_reducible refine SH.br_NT ?_ ?_); (· decide +kernel))
  | ((with_reducible refine' SH.g_gtup ?ga ?gb ?gz); (case ga => walk_at "sq"); (case gb => rfl))
  | ((with_reducible refine' SH.g_lenT ?ga ?gz); (case ga => walk_at "sq"))
  | ((with_reducible refine' SH.g_lenL ?ga ?gz); (case ga => walk_at "sq"))
  | ((with_reducible refine SH.g_mkT (SH.sz rfl) ?_); intro _ _)
  | ((with_reducible refine SH.g_mkL (SH.sz rfl) ?_); intro _ _)
  | ((with_reducible refine SH.g_dnew ?_); intro _ _)
  | ((with_reducible refine' SH.g_tupL ?ga ?gz); (case ga => walk_at "sq"); intro _ _)
  | ((with_reducible refine' SH.g_lstL ?ga ?gz); (case ga => walk_at "sq"); intro _ _)
  | ((with_reducible refine' SH.g_lstT ?ga ?gz); (case ga => walk_at "sq"); intro _ _)
  | ((with_reducible refine' SH.g_dgR ?ga ?gb ?gz); (case ga => walk_at "hp"); (case gb => walk_at "dv"))
  | ((with_reducible refine' SH.g_fldR ?ga ?gb ?gc ?gd ?gz); (case ga => walk_at "hp"); (case gb => walk_at "cl"); (case gc => walk_at "na"); (case gd => walk_at "fv"))
  | ((with_reducible refine' SH.g_insR ?ga ?gb ?gz); (case ga => walk_at "hp"); (case gb => walk_at "fn"))
  | ((with_reducible refine' SH.g_setL ?ga ?gb ?gz); (case ga => walk_at "hp"); (case gb => rfl))
  | ((with_reducible refine SH.g_I ?_ ?_); (· walk_at "ci"))
  | ((with_reducible refine' SH.g_slL ?ga ?gz); (case ga => walk_at "sq"); intro _ _)
  | ((with_reducible refine' SH.g_cat ?ga ?gb ?gc ?gz); (case ga => walk_at "hp"); (case gb => walk_at "hp"); (case gc => walk_at "ls"); intro _ _))
/-- the side conditions of numbers: a divisor, a factor -/
local macro_rules | `(tactic| walk_at "ci") => `(tactic| first
  | (show _ ≠ _; omega) | (show _ < _; omega) | (constructor <;> omega) | (refine Or.inr ⟨?_, ?_⟩ <;> (show _ < _; omega)) | (refine Or.inl ⟨?_, ?_⟩ <;> (show _ < _; omega)) | (refine ⟨?_, ?_, ?_⟩ <;> decide))
local macro_rules | `(tactic| walk_at "ls") => `(tactic| first | (show _ ≤ _; exact Nat.le_trans (by assumption) (by decide)) | (show _ ≤ _; exact Nat.le_trans (by simp; omega) (by decide : 1000 ≤ sizeLine)))
local macro_rules | `(tactic| walk_at "dv") => `(tactic| rfl)
local macro_rules | `(tactic| walk_at "fv") => `(tactic| rfl)
local macro_rules | `(tactic| walk_at "fn") => `(tactic| rfl)
local macro_rules | `(tactic| walk_at "cl") => `(tactic| assumption)
local macro_rules | `(tactic| walk_at "na") => `(tactic| assumption)
local macro_rules | `(tactic| walk_at "go") => `(tactic| repeat walk_at "g2")
/-- a way is split -/
local macro_rules | `(tactic| walk_at "br") => `(tactic| with_reducible first
  | refine SH.br_d (fun _ => ?_) (fun _ => ?_) | refine SH.br_nd (fun _ => ?_) (fun _ => ?_) | refine SH.br_b (fun _ => ?_) (fun _ => ?_))
/-- all ways -/
local macro_rules | `(tactic| walk_at "all") => `(tactic| repeat' first | walk_at "g2" | (walk_at "br" <;> try (walk_at "no")))
/-- a truth value is the other -/
local macro_rules | `(tactic| walk_at "bq") => `(tactic| first | rfl | (simp_all; done) | (simp_all; omega) | (simp only [decide_eq_true_eq, decide_eq_false_iff_not, Bool.and_eq_true, Bool.or_eq_true] at *; omega))
/-- what was tracked is as it was -/
local macro_rules | `(tactic| walk_at "of") => `(tactic| first
  | assumption
  | exact SH.Off.refl _ _
  | (refine' SH.Off.new2 ?gx (by assumption); (case gx => walk_at "of"))
  | (refine' SH.Off.mut ?gx (by assumption); (case gx => walk_at "of"))
  | (refine' SH.Off.trans' ?gx (by assumption) ?gy; (case gy => (intro _ h; (first | exact h | (simp at h; done) | (simp at h ⊢; simp [h]; done)))); (case gx => walk_at "of")))
namespace SH
open PySem PySem.Spec PyProof.Rows L2
/-! ### whether a value has the form of a step -/
def dat2 : V → PyData
  | .str z => .str z
  | .int i => .int i
  | .bl b => .bool b
  | _ => .none
def flB : V → Bool
  | .str z => PyData.canLay0 (.str z)
  | .int _ => true
  | .bl _ => true
  | .non => true
  | _ => false
def kdF : V → Kd
  | .str _ => .str
  | .int _ => .int
  | .bl _ => .bl
  | _ => .non
theorem KdV.flat {K : PySem.W.Frag} {H : Hp} {v : V} (h : flB v = true) : KdV K H v (kdF v) := by
  cases v with
  | str z => exact .str z
  | int i => exact .int i
  | bl b => exact .bl b
  | non => exact .non
  | _ => cases h
theorem fl_dpAll {K : PySem.W.Frag} {H : Hp} : ∀ {xs : List V}, xs.all flB = true → DpAll K H xs (xs.map dat2)
  | [], _ => .nil
  | x :: xs, h => by
    rw [List.all_cons, Bool.and_eq_true] at h
    cases x with
    | str z => exact .cons (.str z) (fl_dpAll h.2)
    | int i => exact .cons (.int i) (fl_dpAll h.2)
    | bl i => exact .cons (.bl i) (fl_dpAll h.2)
    | non => exact .cons .non (fl_dpAll h.2)
    | _ => cases h.1
theorem fl_lay : ∀ {xs : List V}, xs.all flB = true → PyData.canLayAll0 (xs.map dat2) = true
  | [], _ => rfl
  | x :: xs, h => by
    rw [List.all_cons, Bool.and_eq_true] at h
    show (PyData.canLay0 (dat2 x) && PyData.canLayAll0 (xs.map dat2)) = true
    rw [fl_lay h.2]
    cases x with
    | str z => rw [Bool.and_true]; exact h.1
    | int i => rfl
    | bl i => rfl
    | non => rfl
    | _ => cases h.1
theorem fl_depth : ∀ {xs : List V}, xs.all flB = true → PyData.depthAll (xs.map dat2) = 0
  | [], _ => rfl
  | x :: xs, h => by
    rw [List.all_cons, Bool.and_eq_true] at h
    show max (PyData.depth (dat2 x)) (PyData.depthAll (xs.map dat2)) = 0
    rw [fl_depth h.2]
    cases x <;> first | rfl | cases h.1
theorem fl_shaped {xs : List V} (h : xs.all flB = true) : SeqAt.shaped (.tuple (xs.map dat2)) = true := by
  unfold SeqAt.shaped
  rw [Bool.and_eq_true, decide_eq_true_eq]
  refine ⟨fl_lay h, ?_⟩
  show PyData.depthAll (xs.map dat2) + 1 ≤ 64
  rw [fl_depth h]
  omega
theorem g_eqUnitF {K : PySem.W.Frag} {H : Hp} {Q : VK} {p e : Addr} {xs : List V} (h : SqT K H p xs) (hf : xs.all flB = true) (hp : H e = some (.tup [])) (q : Q (.bl xs.isEmpty) H) : rEqD K (.ref p) (.ref e) H Q :=
  g_eqD (.tup h (fl_dpAll hf)) (.tup (.of hp) .nil) (fl_shaped hf) rfl (by
    have : PyData.eqv (.tuple (xs.map dat2)) (.tuple []) = xs.isEmpty := by cases xs <;> rfl
    rw [this]; exact q)
/-- the form of a step, for so many boats -/
def stepB (xs : List V) (n : Int) : Bool := match xs with
  | .str w :: rest =>
    if w = "tick" then decide (rest.length = 0) else match rest with
      | [] => false
      | b :: rest2 => inB 0 (n - 1) b && (if w = "tell" ∨ w = "hear" then decide (rest2.length = 0) else if w = "land" then (match rest2 with | [k] => inB 1 20 k | _ => false)
        else if w = "trade" then (match rest2 with | [t, k] => inB 0 (n - 1) t && !decide (b = t) && inB 1 500 k | _ => false) else false)
  | _ => false
theorem g_isIn {K : PySem.W.Frag} {H : Hp} {Q : VK} {E : XK} {x : V} {k : Kd} {lo hi : Int} (h : KdV K H x k) (q : Q (.bl (inB lo hi x)) H) : spIsIn K [x, .int lo, .int hi] H Q E := ⟨x, k, lo, hi, rfl, h, q⟩
theorem step_B {st : Stp} {n : Nat} (h : st.ok n) : stepB st.vs n = true := by
  cases st with
  | tick => kernel_rfl
  | land b k =>
    show (inB 0 ((n : Int) - 1) (.int b) && inB 1 20 (.int k)) = true
    rw [in_boat h.1, in_amt h.2.1 h.2.2]; rfl
  | tell b =>
    show (inB 0 ((n : Int) - 1) (.int b) && decide (([] : List V).length = 0)) = true
    rw [in_boat h]; rfl
  | hear b =>
    show (inB 0 ((n : Int) - 1) (.int b) && decide (([] : List V).length = 0)) = true
    rw [in_boat h]; rfl
  | trade f t k =>
    show (inB 0 ((n : Int) - 1) (.int f) && (inB 0 ((n : Int) - 1) (.int t) && !decide (V.int (f : Int) = V.int (t : Int)) && inB 1 500 (.int k))) = true
    have ne : ¬ V.int (f : Int) = V.int (t : Int) := fun z => by
      injection z with z
      exact h.2.2.1 (Int.ofNat.inj z)
    rw [in_boat h.1, in_boat h.2.1, in_amt h.2.2.2.1 h.2.2.2.2, decide_eq_false ne]; rfl
def spStepX (K : PySem.W.Frag) : Sp := fun vs H Q _ => ∃ v n, vs = [v, .int ((n : Nat) : Int)] ∧ ((∃ kd, KdV K H v kd ∧ kd ≠ .tup ∧ Q (.bl false) H) ∨ (∃ p xs, v = .ref p ∧ SqT K H p xs ∧ xs.all flB = true ∧ xs.length ≤ 4 ∧ ∀ H', Off [] H H' → Q (.bl (stepB xs n)) H') ∨
  (∃ p a xs ys d ds, v = .ref p ∧ SqT K H p (.ref a :: xs) ∧ SqT K H a ys ∧ (∀ H', Off [] H H' → Dp K H' (.ref p) (.tuple (d :: ds))) ∧ SeqAt.shaped (.tuple (d :: ds)) = true ∧ ∀ H', Off [] H H' → Q (.bl false) H'))
theorem g_neIn {H : Hp} {Q : VK} {x y : V} {lo hi lo' hi' : Int} (h1 : (!inB lo hi x) = false) (h2 : (!inB lo' hi' y) = false) (q : Q (.bl (!decide (x = y))) H) : rNe x y H Q := by
  cases x with
  | int i =>
    cases y with
    | int j => exact ⟨rfl, q⟩
    | _ => cases h2
  | _ => cases h1
theorem inV_two {z a b : Str} : inV (.str z) [.str a, .str b] = decide (z = a ∨ z = b) := by
  show (decide _ || (decide _ || false)) = _
  rw [Bool.or_false]
  by_cases h1 : z = a
  · subst h1; simp
  · by_cases h2 : z = b
    · subst h2; simp
    · simp [h1, h2, Ne.symm h1, Ne.symm h2, eq_comm (a := a), eq_comm (a := b)]
local macro_rules | `(tactic| walk_at "g2") => `(tactic|
  first
  | ((with_reducible refine' SH.g_isIn ?ga ?gz); (case ga => (apply SH.KdV.flat; assumption)))
  | (with_reducible first | refine SH.br_ntt ?_ | refine SH.br_ntf ?_ | refine SH.br_k ?_ | refine SH.br_nk ?_)
  | (with_reducible refine SH.g_neIn (by assumption) (by assumption) ?_)
  | ((with_reducible refine' SH.g_inT ?ga ?gb ?gc ?gz); (case ga => walk_at "sq"); (case gb => exact rfl); (case gc => kernel_rfl)))
section
variable {P : Program} {w : World} {K : PySem.W.Frag} {mg : Str → Option Value} {base : Heap}
theorem okX_is_season_step (T : Txt P w K mg) : DefOk P w K mg base "is_season_step" 3 ["step", "boats"] (spStepX K) := by
  refine T.d_is_season_step.ok sc_is_season_step (fun _ _ _ _ _ _ us hl => match us, hl with | [_, _], _ => rfl) (fun vs H Q E h => ?_) (fun f cdv A outer s H vs Q E hr h => ?_)
  · obtain ⟨v, n, rfl, _⟩ := h
    rfl
  · obtain ⟨v, n, rfl, h⟩ := h
    have B := T.blt
    have hu := hu_of hr
    have G_is_in := ok_is_in (base := base) T
    have c_MOST_SHARE := T.c_MOST_SHARE
    have c_MOST_LANDING := T.c_MOST_LANDING
    refine ⟨_, (pss_cons (ps_if (PW.pt (pw_or (pt_not (pt_val (pe_callB (call_isiK' (K := K) rfl) (by rfl) B.b_isinstance (by decide +kernel) (pa_cons (pv 0) (pa_cons (pe_bltn (v := .ty "tuple") rfl B.b_tuple (by decide +kernel) rfl) pa_nil))) (by intro _; rfl))) (pw_or (pt_cmpR (op_eqDK (K := K) rfl hr.units) (pv 0) (pe_tup pa_nil) (nomark _)) (pw_or1 (pt_not (pt_val (pe_callB (call_isiK' (K := K) rfl) (by rfl) B.b_isinstance (by decide +kernel) (pa_cons (pe_ix (ix_tupK (K := K) rfl) (pv 0) pe_int (fun _ _ => rfl)) (pa_cons (pe_bltn (v := .ty "str") rfl B.b_str (by decide +kernel) rfl) pa_nil))) (by intro _; rfl)))))))
    (pss_one (ps_ret pe_bl))
    pss_nil)
  (pss_cons (ps_if (pt_cmpR op_eq (pe_ix (ix_tupK (K := K) rfl) (pv 0) pe_int (fun _ _ => rfl)) pe_str (nomark _))
    (pss_one (ps_ret (pe_cmpR op_eq (pe_callB (c_lenK (K := K) rfl) (by rfl) B.b_len PySem.boot_len (pa_cons (pv 0) pa_nil)) pe_int (nomark _))))
    pss_nil)
  (pss_cons (ps_if (PW.pt (pw_or (pt_cmpR op_lt (pe_callB (c_lenK (K := K) rfl) (by rfl) B.b_len PySem.boot_len (pa_cons (pv 0) pa_nil)) pe_int (nomark _)) (pw_or1 (pt_not (pt_val (pe_df G_is_in (hr.mono (by decide)) (L2N.passes_call (L2N.takes_of rfl rfl rfl rfl) fun _ _ _ _ z => z) (pa_cons (pe_ix (ix_tupK (K := K) rfl) (pv 0) pe_int (fun _ _ => rfl)) (pa_cons pe_int (pa_cons (pe_op op_sub (pv 1) pe_int) pa_nil)))) (by intro _; rfl))))))
    (pss_one (ps_ret pe_bl))
    pss_nil)
  (pss_cons (ps_if (pt_cmpR (op_in_seqK (K := K) rfl) (pe_ix (ix_tupK (K := K) rfl) (pv 0) pe_int (fun _ _ => rfl)) (pe_tup (pa_cons pe_str (pa_cons pe_str pa_nil))) (by rfl))
    (pss_one (ps_ret (pe_cmpR op_eq (pe_callB (c_lenK (K := K) rfl) (by rfl) B.b_len PySem.boot_len (pa_cons (pv 0) pa_nil)) pe_int (nomark _))))
    pss_nil)
  (pss_cons (ps_if (pt_cmpR op_eq (pe_ix (ix_tupK (K := K) rfl) (pv 0) pe_int (fun _ _ => rfl)) pe_str (nomark _))
    (pss_one (ps_ret (pe_and (pe_cmpR op_eq (pe_callB (c_lenK (K := K) rfl) (by rfl) B.b_len PySem.boot_len (pa_cons (pv 0) pa_nil)) pe_int (nomark _)) (pe_one (pe_df G_is_in (hr.mono (by decide)) (L2N.passes_call (L2N.takes_of rfl rfl rfl rfl) fun _ _ _ _ z => z) (pa_cons (pe_ix (ix_tupK (K := K) rfl) (pv 0) pe_int (fun _ _ => rfl)) (pa_cons pe_int (pa_cons (pe_cint c_MOST_LANDING) pa_nil))))))))
    pss_nil)
  (pss_cons (ps_if (PW.pt (pw_or (pt_cmpR op_ne (pe_ix (ix_tupK (K := K) rfl) (pv 0) pe_int (fun _ _ => rfl)) pe_str (nomark _)) (pw_or (pt_cmpR op_ne (pe_callB (c_lenK (K := K) rfl) (by rfl) B.b_len PySem.boot_len (pa_cons (pv 0) pa_nil)) pe_int (nomark _)) (pw_or1 (pt_not (pt_val (pe_df G_is_in (hr.mono (by decide)) (L2N.passes_call (L2N.takes_of rfl rfl rfl rfl) fun _ _ _ _ z => z) (pa_cons (pe_ix (ix_tupK (K := K) rfl) (pv 0) pe_int (fun _ _ => rfl)) (pa_cons pe_int (pa_cons (pe_op op_sub (pv 1) pe_int) pa_nil)))) (by intro _; rfl)))))))
    (pss_one (ps_ret pe_bl))
    pss_nil)
  (pss_one (ps_ret (pe_and (pe_cmpR op_ne (pe_ix (ix_tupK (K := K) rfl) (pv 0) pe_int (fun _ _ => rfl)) (pe_ix (ix_tupK (K := K) rfl) (pv 0) pe_int (fun _ _ => rfl)) (nomark _)) (pe_one (pe_df G_is_in (hr.mono (by decide)) (L2N.passes_call (L2N.takes_of rfl rfl rfl rfl) fun _ _ _ _ z => z) (pa_cons (pe_ix (ix_tupK (K := K) rfl) (pv 0) pe_int (fun _ _ => rfl)) (pa_cons pe_int (pa_cons (pe_cint c_MOST_SHARE) pa_nil)))))))))))))), ?_⟩
    rcases h with ⟨kd, hk, nk, q⟩ | ⟨p, xs, rfl, hst, hf, h4, q⟩ | ⟨p, a, xs, ys, d, ds, rfl, hst, ha, hd, hsh, q⟩
    · walk_at "all"
      all_goals (first | exact q | (exfalso; cases kd <;> simp_all))
    · walk_at "go"
      rename_i e he
      refine g_eqUnitF (seqT_new hst he) hf upd_same ?_
      rcases xs with _ | ⟨x, rest⟩
      · rw [show ([] : List V).isEmpty = true from rfl]
        walk_at "go"
        exact q _ (.new he)
      · have q' : ∀ b H', Off [] (upd H e (.tup [])) H' → stepB (x :: rest) n = b → Q (.bl b) H' := fun b H' o eb => eb ▸ q H' ((Off.new he).trans o)
        have hst' := seqT_new (o := .tup []) hst he
        clear hst q
        generalize upd H e (.tup []) = H1 at *
        rw [List.all_cons, Bool.and_eq_true] at hf
        obtain ⟨fx, fr⟩ := hf
        rw [show (x :: rest).isEmpty = false from rfl]
        walk_at "go"
        cases x with
        | str z =>
          rcases rest with _ | ⟨b, _ | ⟨t, _ | ⟨k, _ | ⟨u, more⟩⟩⟩⟩
          · walk_at "all"
            all_goals (refine q' _ _ (by walk_at "of") ?_; clear q' hst'; simp_all [stepB])
          · have fb : flB b = true := by simpa using fr
            clear fr
            walk_at "all"
            all_goals (refine q' _ _ (by walk_at "of") ?_)
            all_goals (clear q' hst'; first | (simp_all [stepB]; done) | (simp only [inV_two] at *; simp_all [stepB]; done))
          · simp only [List.all_cons, List.all_nil, Bool.and_true, Bool.and_eq_true] at fr
            obtain ⟨fb, ft⟩ := fr
            walk_at "all"
            all_goals (refine q' _ _ (by walk_at "of") ?_)
            all_goals (clear q' hst'; first | (simp_all [stepB]; done) | (simp only [inV_two] at *; simp_all [stepB]; done))
          · simp only [List.all_cons, List.all_nil, Bool.and_true, Bool.and_eq_true] at fr
            obtain ⟨fb, ft, fk⟩ := fr
            walk_at "all"
            all_goals (refine q' _ _ (by walk_at "of") ?_)
            all_goals (clear q' hst'; first | (simp_all [stepB]; done) | (simp only [inV_two] at *; simp_all [stepB]; done))
          · simp at h4
        | int i =>
          refine g_ixT hst' atI_cons0 ?_
          walk_at "go"
          exact q' _ _ (.refl _ _) rfl
        | bl i =>
          refine g_ixT hst' atI_cons0 ?_
          walk_at "go"
          exact q' _ _ (.refl _ _) rfl
        | non =>
          refine g_ixT hst' atI_cons0 ?_
          walk_at "go"
          exact q' _ _ (.refl _ _) rfl
        | _ => cases fx
    · walk_at "go"
      rename_i e he
      have oe : Off [] H (upd H e (.tup [])) := .new he
      have hst' := oe.seqT (K := K) hst
      have ha' := oe.seqT (K := K) ha
      refine g_eqD (hd (upd H e (.tup [])) oe) (.tup (.of upd_same) .nil) hsh rfl ?_
      rw [show PyData.eqv (.tuple (d :: ds)) (.tuple []) = false from rfl]
      walk_at "go"
      refine g_ixT hst' atI_cons0 ?_
      have kd : KdV K (upd H e (.tup [])) (.ref a) .tup := .tup ha'
      walk_at "go"
      exact q _ oe
end
end SH
end

section
/-! #### the walk's words -/
local macro_rules | `(tactic| walk_at "ne0") => `(tactic| first
  | assumption
  | (refine Ne.symm ?_; assumption))
local macro_rules | `(tactic| walk_at "ne") => `(tactic| first
  | assumption
  | (refine Ne.symm ?_; assumption)
  | (refine' L2.ne_of_none ?gx (by assumption); (case gx => walk_at "hp"))
  | (refine' Ne.symm (L2.ne_of_none ?gx (by assumption)); (case gx => walk_at "hp")))
local macro_rules | `(tactic| walk_at "hp") => `(tactic| first
  | assumption
  | exact L2.upd_same
  | (refine' SH.upd_new ?gh (by assumption); (case gh => walk_at "hp"))
  | (refine' (L2.upd_ne ?gn).trans ?gh; (case gn => walk_at "ne0"); (case gh => walk_at "hp"))
  | (refine' SH.Off.at (by assumption) ?gn ?gh; (case gn => walk_at "nin"); (case gh => walk_at "hp")))
local macro_rules | `(tactic| walk_at "nin") => `(tactic| first
  | exact SH.nin_nil
  | (refine SH.nin_cons ?_ ?_; (· walk_at "ne0"); (· walk_at "nin")))
local macro_rules | `(tactic| walk_at "sq") => `(tactic| first
  | assumption
  | (apply L2.SqL.of; (· walk_at "hp"))
  | (apply L2.SqT.of; (· walk_at "hp"))
  | (refine' SH.seqT_new ?gx (by assumption); (case gx => walk_at "sq"))
  | (refine' SH.seqL_new ?gx (by assumption); (case gx => walk_at "sq"))
  | (refine' SH.Off.seqT (by assumption) ?gx; (case gx => walk_at "sq"))
  | (refine' SH.Off.seqL (by assumption) ?gy ?gx; (case gx => walk_at "sq"); (case gy => walk_at "nin")))
local macro_rules | `(tactic| walk_at "kd") => `(tactic| first
  | assumption | exact SH.KdV.int _ | exact SH.KdV.bl _ | exact SH.KdV.str _ | exact SH.KdV.non
  | (apply SH.KdV.tup; (· walk_at "sq")) | (apply SH.KdV.lst; (· walk_at "sq")))
/-- a way that cannot be -/
local macro_rules | `(tactic| walk_at "no") => `(tactic| (exfalso; first | assumption | omega | contradiction | (simp_all; done)))
/-- one step -/
local macro_rules | `(tactic| walk_at "g1") => `(tactic| with_reducible first
  | refine SH.g_var (by with_unfolding_all rfl) ?_ | refine SH.g_c ?_ | refine SH.g_op ?_ | refine SH.g_un ?_ | refine SH.g_I0 ?_ | refine SH.g_U ?_
  | refine SH.g_eqI ?_ | refine SH.g_neI ?_ | refine SH.g_eqS ?_ | refine SH.g_neS ?_
  | refine SH.g_test ?_ | refine SH.g_B ?_ | refine SH.g_isB ?_ | refine SH.g_and ?_ | refine SH.g_or ?_ | refine SH.g_not ?_ | refine SH.g_andV ?_ | refine SH.g_orV ?_ | refine SH.g_notV ?_ | refine SH.g_ifE ?_ | refine SH.g_chain ?_
  | refine SH.g_nil ?_ | refine SH.g_cons ?_ | refine SH.g_tup ?_ | refine SH.g_lst ?_ | refine SH.g_call ?_ | refine SH.g_fld ?_ | refine SH.g_meth ?_ | refine SH.g_make ?_ | refine SH.g_cb ?_ | refine SH.g_bm ?_
  | refine SH.g_seq ?_ | refine SH.g_asg ?_ | refine SH.g_name ?_ | refine SH.g_drop ?_ | refine SH.g_ret ?_ | refine SH.g_retN ?_ | refine SH.g_next ?_ | refine SH.g_brk ?_ | refine SH.g_cnt ?_ | refine SH.g_ifs ?_ | refine SH.g_par ?_ | refine SH.g_par2 ?_ | refine SH.g_fldS ?_ | refine SH.g_raise ?_ | refine SH.g_rs ?_
  | refine SH.g_sub ?_ | refine SH.g_yes ?_ | refine SH.g_sl ?_ | refine SH.g_noPart ?_ | refine SH.g_part ?_ | refine SH.g_intO ?_ | refine SH.g_dget ?_ | refine SH.g_dput ?_ | refine SH.g_forR ?_ | refine SH.g_forL ?_ | refine SH.g_forT ?_ | refine SH.g_lcR ?_ | refine SH.g_lcL ?_ | refine SH.g_lcT ?_ | refine SH.g_gcons ?_ | refine SH.g_gnil ?_
  | refine SH.br_t ?_ | refine SH.br_f ?_
  | refine SH.g_int ?_ | refine SH.g_abs ?_ | refine SH.g_max2 ?_ | refine SH.g_min2 ?_)
local macro_rules | `(tactic| walk_at "g2") => `(tactic| first
  | walk_at "g1"
  | ((with_reducible refine' SH.g_isiInt ?ga ?gz); (case ga => walk_at "kd"))
  | ((with_reducible refine' SH.g_isiBool ?ga ?gz); (case ga => walk_at "kd"))
  | ((with_reducible refine' SH.g_isiStr ?ga ?gz); (case ga => walk_at "kd"))
  | ((with_reducible refine' SH.g_isiTup ?ga ?gz); (case ga => walk_at "kd"))
  | ((with_reducible refine' SH.g_ixT ?ga ?gb ?gz); (case ga => walk_at "sq"); (case gb => rfl))
  | ((with_reducible refine' SH.g_ixL ?ga ?gb ?gz); (case ga => walk_at "sq"); (case gb => first | rfl | (apply SH.atI_refs; assumption)))
  | ((with_reducible refine SH.br_F ?_ ?_); (· decide +kernel)) | ((with_reducible refine SH.br_T ?_ ?_); (· decide +kernel)) | ((with_reducible refine SH.br_NF ?_ ?_); (· decide +kernel)) | ((with_reducible refine SH.br_NT ?_ ?_); (· decide +kernel))
  | ((with_reducible refine' SH.g_gtup ?ga ?gb ?gz); (case ga => walk_at "sq"); (case gb => rfl))
  | ((with_reducible refine' SH.g_lenT ?ga ?gz); (case ga => walk_at "sq"))
  | ((with_reducible refine' SH.g_lenL ?ga ?gz); (case ga => walk_at "sq"))
  | ((with_reducible refine SH.g_mkT (SH.sz rfl) ?_); intro _ _)
  | ((with_reducible refine SH.g_mkL (SH.sz rfl) ?_); intro _ _)
  | ((with_reducible refine SH.g_dnew ?_); intro _ _)
  | ((with_reducible refine' SH.g_tupL ?ga ?gz); (case ga => walk_at "sq"); intro _ _)
  | ((with_reducible refine' SH.g_lstL ?ga ?gz); (case ga => walk_at "sq"); intro _ _)
  | ((with_reducible refine' SH.g_lstT ?ga ?gz); (case ga => walk_at "sq"); intro _ _)
  | ((with_reducible refine' SH.g_dgR ?ga ?gb ?gz); (case ga => walk_at "hp"); (case gb => walk_at "dv"))
  | ((with_reducible refine' SH.g_fldR ?ga ?gb ?gc ?gd ?gz); (case ga => walk_at "hp"); (case gb => walk_at "cl"); (case gc => walk_at "na"); (case gd => walk_at "fv"))
  | ((with_reducible refine' SH.g_insR ?ga ?gb ?gz); (case ga => walk_at "hp"); (case gb => walk_at "fn"))
  | ((with_reducible refine' SH.g_setL ?ga ?gb ?gz); (case ga => walk_at "hp"); (case gb => rfl))
  | ((with_reducible refine SH.g_I ?_ ?_); (· walk_at "ci"))
  | ((with_reducible refine' SH.g_slL ?ga ?gz); (case ga => walk_at "sq"); intro _ _)
  | ((with_reducible refine' SH.g_cat ?ga ?gb ?gc ?gz); (case ga => walk_at "hp"); (case gb => walk_at "hp"); (case gc => walk_at "ls"); intro _ _))
/-- the side conditions of numbers: a divisor, a factor -/
local macro_rules | `(tactic| walk_at "ci") => `(tactic| first
  | (show _ ≠ _; omega) | (show _ < _; omega) | (constructor <;> omega) | (refine Or.inr ⟨?_, ?_⟩ <;> (show _ < _; omega)) | (refine Or.inl ⟨?_, ?_⟩ <;> (show _ < _; omega)) | (refine ⟨?_, ?_, ?_⟩ <;> decide))
local macro_rules | `(tactic| walk_at "ls") => `(tactic| first | (show _ ≤ _; exact Nat.le_trans (by assumption) (by decide)) | (show _ ≤ _; exact Nat.le_trans (by simp; omega) (by decide : 1000 ≤ sizeLine)))
local macro_rules | `(tactic| walk_at "dv") => `(tactic| rfl)
local macro_rules | `(tactic| walk_at "fv") => `(tactic| rfl)
local macro_rules | `(tactic| walk_at "fn") => `(tactic| rfl)
local macro_rules | `(tactic| walk_at "cl") => `(tactic| assumption)
local macro_rules | `(tactic| walk_at "na") => `(tactic| assumption)
local macro_rules | `(tactic| walk_at "go") => `(tactic| repeat walk_at "g2")
/-- a way is split -/
local macro_rules | `(tactic| walk_at "br") => `(tactic| with_reducible first
  | refine SH.br_d (fun _ => ?_) (fun _ => ?_) | refine SH.br_nd (fun _ => ?_) (fun _ => ?_) | refine SH.br_b (fun _ => ?_) (fun _ => ?_))
/-- all ways -/
local macro_rules | `(tactic| walk_at "all") => `(tactic| repeat' first | walk_at "g2" | (walk_at "br" <;> try (walk_at "no")))
/-- a truth value is the other -/
local macro_rules | `(tactic| walk_at "bq") => `(tactic| first | rfl | (simp_all; done) | (simp_all; omega) | (simp only [decide_eq_true_eq, decide_eq_false_iff_not, Bool.and_eq_true, Bool.or_eq_true] at *; omega))
/-- what was tracked is as it was -/
local macro_rules | `(tactic| walk_at "of") => `(tactic| first
  | assumption
  | exact SH.Off.refl _ _
  | (refine' SH.Off.new2 ?gx (by assumption); (case gx => walk_at "of"))
  | (refine' SH.Off.mut ?gx (by assumption); (case gx => walk_at "of"))
  | (refine' SH.Off.trans' ?gx (by assumption) ?gy; (case gy => (intro _ h; (first | exact h | (simp at h; done) | (simp at h ⊢; simp [h]; done)))); (case gx => walk_at "of")))
/-- the own season's dicts -/
local macro_rules | `(tactic| walk_at "dv") => `(tactic| with_reducible first
  | exact SH.bk_right | exact SH.bk_heard | exact SH.bk_landed | exact SH.bk_told | exact SH.bk_untold | exact SH.bk_unheard | exact SH.bk_present
  | exact SH.ok_own | exact SH.ok_now | exact SH.ok_boats | exact SH.ok_broken | exact SH.ok_beyond)
local macro_rules | `(tactic| walk_at "dw") => `(tactic| with_reducible first
  | exact SH.bp_right | exact SH.bp_heard | exact SH.bp_landed | exact SH.bp_told | exact SH.bp_untold | exact SH.bp_unheard | exact SH.bp_present
  | exact SH.op_now | exact SH.op_broken | exact SH.op_beyond)
local macro_rules | `(tactic| walk_at "g2") => `(tactic|
  ((with_reducible refine' SH.g_dpA ?ga ?gb ?gc ?gz); (case ga => walk_at "hp"); (case gb => walk_at "dw"); (case gc => exact SH.szk rfl); intro _ _ _))
local macro_rules | `(tactic| walk_at "sq") => `(tactic|
  ((refine' SH.seqT_put ?gx ?gy ?gz); (case gy => walk_at "hp"); (case gz => exact trivial); (case gx => walk_at "sq")))
local macro_rules | `(tactic| walk_at "g2") => `(tactic|
  ((with_reducible refine' SH.g_ixL ?ga ?gb ?gz); (case ga => walk_at "sq"); (case gb => first | rfl | (apply SH.atI_refs; assumption) | exact SH.atI_cons0)))
/-- the package's season: its instances -/
local macro_rules | `(tactic| walk_at "fv") => `(tactic| with_reducible first
  | exact SH.bf_right | exact SH.bf_heard | exact SH.bf_landed | exact SH.bf_told | exact SH.bf_untold | exact SH.bf_unheard | exact SH.bf_present
  | exact SH.pf_shares | exact SH.pf_most | exact SH.pf_late | exact SH.pf_reserve
  | exact SH.sf_plan | exact SH.sf_now | exact SH.sf_boats | exact SH.sf_broken | exact SH.sf_beyond)
local macro_rules | `(tactic| walk_at "fp") => `(tactic| with_reducible first
  | exact SH.bq_right | exact SH.bq_heard | exact SH.bq_landed | exact SH.bq_told | exact SH.bq_present | exact SH.sq_now | exact SH.sq_broken)
local macro_rules | `(tactic| walk_at "fn") => `(tactic| kernel_rfl)
local macro_rules | `(tactic| walk_at "lt") => `(tactic| (rw [PySem.sizeLine_eq]; omega))
local macro_rules | `(tactic| walk_at "g2") => `(tactic| first
  | (with_reducible first | refine SH.br_ntt ?_ | refine SH.br_ntf ?_ | refine SH.br_k ?_ | refine SH.br_nk ?_ | refine SH.g_fldAug ?_ | refine SH.g_rAdd ?_ | refine SH.g_rSub ?_)
  | ((with_reducible refine SH.br_inF ?_ ?_); (· decide +kernel)) | ((with_reducible refine SH.br_inT ?_ ?_); (· decide +kernel))
  | ((with_reducible refine' SH.g_inT ?ga ?gb ?gc ?gz); (case ga => walk_at "sq"); (case gb => exact rfl); (case gc => kernel_rfl))
  | ((with_reducible refine' SH.g_stA ?ga ?gb ?gc ?gd ?ge ?gz); (case ga => walk_at "hp"); (case gb => walk_at "cl"); (case gc => walk_at "na"); (case gd => walk_at "fp"); (case ge => exact SH.szf rfl); intro _ _ _)
  | ((with_reducible refine' SH.g_augR ?ga ?gb ?gc ?gd ?gz); (case ga => walk_at "hp"); (case gb => walk_at "cl"); (case gc => walk_at "na"); (case gd => walk_at "fv"))
  | ((with_reducible refine' SH.g_putC ?ga ?gb ?gc ?gz); (case ga => walk_at "hp"); (case gb => walk_at "fp"); (case gc => exact SH.szf rfl); intro _ _ _)
  | ((with_reducible refine' SH.g_app' ?ga ?gb ?gz); (case ga => walk_at "hp"); (case gb => walk_at "lt"); intro _ _ _)
  | ((with_reducible refine' SH.g_popF ?ga ?gz); (case ga => walk_at "hp"); intro _ _ _)
  | ((with_reducible refine' SH.g_bml ?ga ?gz); (case ga => walk_at "sq"))
  | ((with_reducible refine' SH.g_isiSelf ?ga ?gb ?gc ?gz); (case ga => walk_at "hp"); (case gb => walk_at "cl"); (case gc => walk_at "cl")))
local macro_rules | `(tactic| walk_at "g2") => `(tactic|
  ((with_reducible refine' SH.g_ixL ?ga ?gb ?gz); (case ga => walk_at "sq"); (case gb => first | rfl | (apply SH.atI_refs; assumption) | exact SH.atI_cons0 | (apply SH.atI_bs; assumption))))
namespace SH
open PySem PySem.Spec PyProof.Rows L2
def Sea.mid (s : Sea) : Stp → Sea
  | .tick => s.do' .tick
  | st => s.pre st
theorem mid_look {s : Sea} {c : Nat} (g : s.Good c) (st : Stp) : (s.mid st).look = s.do' st := by
  cases st with
  | tick =>
    have h := (Sea.do_good g .tick).br
    show Sea.look (s.do' .tick) = _
    generalize s.do' .tick = z at *
    cases z
    simp only [Sea.look]
    simp_all
    exact h
  | _ => rfl
def Stp.word : Stp → Str
  | .land _ _ => "land"
  | .tell _ => "tell"
  | .hear _ => "hear"
  | .trade _ _ _ => "trade"
  | .tick => "tick"
/-- a value that has not the form of a step, for so many boats -/
def OddStep (K : PySem.W.Frag) (H : Hp) (v : V) (n : Int) : Prop := (∃ kd, KdV K H v kd ∧ kd ≠ .tup) ∨ (∃ p xs, v = .ref p ∧ SqT K H p xs ∧ xs.all flB = true ∧ xs.length ≤ 4 ∧ stepB xs n = false) ∨
  (∃ p a xs ys d ds, v = .ref p ∧ SqT K H p (.ref a :: xs) ∧ SqT K H a ys ∧ (∀ S H', Off S H H' → Dp K H' (.ref p) (.tuple (d :: ds))) ∧ SeqAt.shaped (.tuple (d :: ds)) = true)
def spDoV (K : PySem.W.Frag) : Sp := fun vs H Q E => ∃ (k : Pk) (s : Sea) (v : V) (st : Stp) (c : Nat), vs = [.ref k.q, v] ∧ PkAt K H k s ∧ StepAt K H v st ∧ st.ok k.bs.length ∧ s.Good c ∧ c ≤ 100000 ∧
  (s.can st = true → ∀ H', PkAt K H' k (s.do' st) → Off k.foot H H' → Q .non H') ∧ (s.can st = false → ∀ H', Off [] H H' → RaiseW (He.ga K "NotPossible") "word" (.str st.word) H' E)
def spDoP (K : PySem.W.Frag) : Sp := fun vs H Q E => spDoV K vs H Q E ∨ ∃ (k : Pk) (s : Sea) (v : V), vs = [.ref k.q, v] ∧ PkAt K H k s ∧ OddStep K H v k.bs.length ∧ ∀ H', Off [] H H' → RaiseW (He.ga K "BadArgument") "name" (.str "step") H' E
theorem vs_fl (st : Stp) : st.vs.all flB = true := by cases st <;> kernel_rfl
theorem vs_len (st : Stp) : st.vs.length ≤ 4 := by cases st <;> exact Nat.le_of_ble_eq_true rfl
section
variable {P : Program} {w : World} {K : PySem.W.Frag} {mg : Str → Option Value} {base : Heap}
theorem okL_Season_do (T : Txt P w K mg) : MthL P w K mg base (He.ga K "Season") "do" 4 ["self", "step"] (spDoP K) := by
  refine T.m_Season_do.okL T.cl_Season sc_Season_do (fun _ _ _ _ _ _ us hl => match us, hl with | [_, _], _ => rfl) (fun vs H Q E h => ?_) (fun f cdv A outer s H vs Q E hr h => ?_)
  · rcases h with ⟨k, s, v, st, c, rfl, _⟩ | ⟨k, s, v, rfl, _⟩ <;> rfl
  · have B := T.blt
    have hu := hu_of hr
    have G_is_season_step := ok_is_season_step (base := base) T
    have X_BadArgument := T.x_BadArgument
    have G_Season_can_do := ok_Season_can_do (base := base) T
    have X_NotPossible := T.x_NotPossible
    have G_Season_land := ok_Season_land (base := base) T
    have G_Season_change := ok_Season_change (base := base) T
    have G_Season_pass_tick := ok_Season_pass_tick (base := base) T
    have cl_Plan := T.cl_Plan
    have is_Plan := T.is_Plan
    have cl_Boat := T.cl_Boat
    have is_Boat := T.is_Boat
    have na_Boat_right := T.na_Boat_right
    have na_Boat_heard := T.na_Boat_heard
    have na_Boat_landed := T.na_Boat_landed
    have na_Boat_told := T.na_Boat_told
    have na_Boat_untold := T.na_Boat_untold
    have na_Boat_unheard := T.na_Boat_unheard
    have cl_Season := T.cl_Season
    have is_Season := T.is_Season
    have na_Season__boats := T.na_Season__boats
    have na_Season__is_broken := T.na_Season__is_broken
    have G_is_season_step := okX_is_season_step (base := base) T
    refine ⟨_, (pss_cons (ps_if (pt_not (pt_val (pe_df G_is_season_step (hr.mono (by decide)) (L2N.passes_call (L2N.takes_of rfl rfl rfl rfl) fun _ _ _ _ z => z) (pa_cons (pv 1) (pa_cons (pe_callB (c_lenK (K := K) rfl) (by rfl) B.b_len PySem.boot_len (pa_cons (pe_fldK (K := K) rfl (pv 0) rfl) pa_nil)) pa_nil))) (by intro _; rfl)))
    (pss_one (ps_raiseXs rfl X_BadArgument (hr.mono (by decide)) (L2N.takes_of rfl rfl rfl rfl) (pa_cons pe_str pa_nil)))
    pss_nil)
  (pss_cons (ps_if (pt_not (pt_val (pe_mth G_Season_can_do (hr.mono (by decide)) (L2N.passes_call (L2N.takes_of rfl rfl rfl rfl) fun _ _ _ _ z => z) (pv 0) (pa_cons (pv 1) pa_nil)) (by intro _; rfl)))
    (pss_one (ps_raiseXs rfl X_NotPossible (hr.mono (by decide)) (L2N.takes_of rfl rfl rfl rfl) (pa_cons (pe_ix (ix_tupK (K := K) rfl) (pv 1) pe_int (fun _ _ => rfl)) pa_nil)))
    pss_nil)
  (pss_cut (ps_if (pt_cmpR op_eq (pe_ix (ix_tupK (K := K) rfl) (pv 1) pe_int (fun _ _ => rfl)) pe_str (nomark _))
    (pss_one (ps_expr (pe_mth G_Season_land (hr.mono (by decide)) (L2N.passes_call (L2N.takes_of rfl rfl rfl rfl) fun _ _ _ _ z => z) (pv 0) (pa_cons (pe_ix (ix_listK (K := K) rfl) (pe_fldK (K := K) rfl (pv 0) rfl) (pe_ix (ix_tupK (K := K) rfl) (pv 1) pe_int (fun _ _ => rfl)) (fun _ _ => rfl)) (pa_cons (pe_ix (ix_tupK (K := K) rfl) (pv 1) pe_int (fun _ _ => rfl)) pa_nil)))))
    (pss_one (ps_if (pt_cmpR op_eq (pe_ix (ix_tupK (K := K) rfl) (pv 1) pe_int (fun _ _ => rfl)) pe_str (nomark _))
    (pss_cons (ps_set (i := 2) sc_Season_do.nd rfl (by first | exact Or.inl rfl | exact Or.inr rfl) (pe_ix (ix_listK (K := K) rfl) (pe_fldK (K := K) rfl (pv 0) rfl) (pe_ix (ix_tupK (K := K) rfl) (pv 1) pe_int (fun _ _ => rfl)) (fun _ _ => rfl)))
  (pss_one (ps_fldaugK (K := K) rfl (pv 2) (pe_ix (ix_tupK (K := K) rfl) (pe_bmK (K := K) rfl PySem.F.plainAttrs_list PySem.F.slot_list_pop PySem.F.type_list_pop mt_popAt (pe_fldK (K := K) rfl (pv 2) rfl) (pa_cons pe_int pa_nil)) pe_int (fun _ _ => rfl)) in_add)))
    (pss_one (ps_if (pt_cmpR op_eq (pe_ix (ix_tupK (K := K) rfl) (pv 1) pe_int (fun _ _ => rfl)) pe_str (nomark _))
    (pss_cons (ps_set (i := 2) sc_Season_do.nd rfl (by first | exact Or.inl rfl | exact Or.inr rfl) (pe_ix (ix_listK (K := K) rfl) (pe_fldK (K := K) rfl (pv 0) rfl) (pe_ix (ix_tupK (K := K) rfl) (pv 1) pe_int (fun _ _ => rfl)) (fun _ _ => rfl)))
  (pss_one (ps_fldaugK (K := K) rfl (pv 2) (pe_ix (ix_tupK (K := K) rfl) (pe_bmK (K := K) rfl PySem.F.plainAttrs_list PySem.F.slot_list_pop PySem.F.type_list_pop mt_popAt (pe_fldK (K := K) rfl (pv 2) rfl) (pa_cons pe_int pa_nil)) pe_int (fun _ _ => rfl)) in_add)))
    (pss_one (ps_if (pt_cmpR op_eq (pe_ix (ix_tupK (K := K) rfl) (pv 1) pe_int (fun _ _ => rfl)) pe_str (nomark _))
    (pss_cons (ps_expr (pe_mth G_Season_change (hr.mono (by decide)) (L2N.passes_call (L2N.takes_of rfl rfl rfl rfl) fun _ _ _ _ z => z) (pv 0) (pa_cons (pe_ix (ix_listK (K := K) rfl) (pe_fldK (K := K) rfl (pv 0) rfl) (pe_ix (ix_tupK (K := K) rfl) (pv 1) pe_int (fun _ _ => rfl)) (fun _ _ => rfl)) (pa_cons (pe_un un_neg (pe_ix (ix_tupK (K := K) rfl) (pv 1) pe_int (fun _ _ => rfl))) pa_nil))))
  (pss_one (ps_expr (pe_mth G_Season_change (hr.mono (by decide)) (L2N.passes_call (L2N.takes_of rfl rfl rfl rfl) fun _ _ _ _ z => z) (pv 0) (pa_cons (pe_ix (ix_listK (K := K) rfl) (pe_fldK (K := K) rfl (pv 0) rfl) (pe_ix (ix_tupK (K := K) rfl) (pv 1) pe_int (fun _ _ => rfl)) (fun _ _ => rfl)) (pa_cons (pe_ix (ix_tupK (K := K) rfl) (pv 1) pe_int (fun _ _ => rfl)) pa_nil))))))
    (pss_one (ps_expr (pe_mth0 G_Season_pass_tick (hr.mono (by decide)) (L2N.passes_call (L2N.takes_of rfl rfl rfl rfl) fun _ _ _ _ z => z) (pv 0)))))))))))
  (pss_one (ps_if (pt_val (pe_callB (cr_anyK (K := K) rfl rfl) (by rfl) B.b_any (by decide +kernel) (pa_cons (pe_lc (own := [("boat", 2)]) rfl sc_Season_do.nd (pi_listK (K := K) rfl (pe_fldK (K := K) rfl (pv 0) rfl)) (blkOk_by (own := [("boat", 2)]) (N := ["self", "step", "boat"]) (sc := defScope s_Season_do) (by decide +kernel)) (fun _ _ _ _ _ => (pg_name (i := 2) sc_Season_do.nd rfl (by first | exact Or.inl rfl | exact Or.inr rfl))) (fun _ _ _ _ _ => pts_nil) (fun _ _ _ _ _ => (pe_cmpR op_gt (pe_fldK (K := K) rfl (pv 2) rfl) (pe_fldK (K := K) rfl (pv 2) rfl) (nomark _)))) pa_nil)) (by intro _; rfl))
    (pss_one (ps_fldK (K := K) rfl (pv 0) pe_bl rfl))
    pss_nil))))), ?_⟩
    rcases h with ⟨k, s, v, st, c, rfl, hx, hsv, hok, hg, hc, q1, q2⟩ | ⟨k, s, v, rfl, hx, odd, qo⟩
    rotate_left 1
    · obtain ⟨dq, h1⟩ := hx.hq
      have hl := hx.hl
      walk_at "go"
      refine ⟨v, k.bs.length, by rw [List.length_map], ?_⟩
      rcases odd with ⟨kd, hk, nk⟩ | ⟨p, xs, rfl, hs, hf, h4, hb⟩ | ⟨p, a, xs, ys, d, ds, rfl, hs, ha, hd, hsh⟩
      · refine .inl ⟨kd, hk, nk, ?_⟩
        walk_at "go"
        exact fun d hd => qo H (.refl _ _) d hd
      · refine .inr (.inl ⟨p, xs, rfl, hs, hf, h4, fun H1 o1 => ?_⟩)
        rw [hb]
        walk_at "go"
        exact fun d hd => qo H1 o1 d hd
      · refine .inr (.inr ⟨p, a, xs, ys, d, ds, rfl, hs, ha, hd [], hsh, fun H1 o1 => ?_⟩)
        walk_at "go"
        exact fun d hd => qo H1 o1 d hd
    obtain ⟨dq, h1⟩ := hx.hq
    have hl := hx.hl
    walk_at "go"
    obtain ⟨pv, ev, hsq⟩ := id hsv
    refine ⟨v, k.bs.length, by rw [List.length_map], .inr (.inl ⟨pv, st.vs, ev, hsq, vs_fl st, vs_len st, fun H1 o1 => ?_⟩)⟩
    rw [step_B hok]
    have hx1 := hx.off o1 (by simp)
    obtain ⟨dq1, h11⟩ := hx1.hq
    walk_at "go"
    refine ⟨k, s, v, st, rfl, hx1, hsv.off o1, hok, fun H2 o2 => ?_⟩
    have o12 := o1.trans o2
    have hx2 := hx.off o12 (by simp)
    have hs2 := hsv.off o12
    cases hcan : s.can st with
    | false =>
      walk_at "go"
      obtain ⟨p, rfl, hst⟩ := hs2
      refine g_ixT hst (v := .str st.word) (by cases st <;> rfl) ?_
      walk_at "go"
      exact fun d hd => q2 hcan H2 o12 d hd
    | true =>
      walk_at "go"
      clear h1 h11 hl
      obtain ⟨dq2, h1⟩ := hx2.hq
      have hl := hx2.hl
      have oF : Off k.foot H H2 := o12.mono (by simp)
      obtain ⟨p, rfl, hst⟩ := hs2
      have hlen := Paired.length hx2.boats
      have hb5 : k.bs.length ≤ 5 := by have := hg.len; have := hg.plan.n1; omega
      refine g_cut (fun σ H' => ∃ bx, σ = [some (.ref k.q), some (.ref p), bx] ∧ PkAt K H' k (s.mid st) ∧ Off k.foot H H') ?_ ?_
      · cases st with
        | tick =>
          have hst' : SqT K H2 p [.str "tick"] := hst
          walk_at "go"
          exact ⟨k, s, c, rfl, hx2, hg, hc, fun H3 hx3 o3 => ⟨_, rfl, hx3, oF.trans o3⟩⟩
        | land b n =>
          have hst' : SqT K H2 p [.str "land", .int b, .int n] := hst
          obtain ⟨y, t, hy, ht, ⟨dy, e1⟩, ⟨us, e2, e3⟩, ⟨ks, e4, e5⟩⟩ := pk_boat' hx2 hok.1
          walk_at "go"
          exact ⟨k, s, b, y, t, n, c, rfl, hx2, hy, ht, hg, hc, fun H3 hx3 o3 => ⟨_, rfl, hx3, oF.trans o3⟩⟩
        | tell b =>
          have hst' : SqT K H2 p [.str "tell", .int b] := hst
          obtain ⟨y, t, hy, ht, ⟨dy, e1⟩, ⟨us, e2, e3⟩, ⟨ks, e4, e5⟩⟩ := pk_boat' hx2 hok
          obtain ⟨⟨n1, n2, n3, n4⟩, hf, n5, n6, n7, n8, n9, n10, n11, n12⟩ := pk_ne hx2 hy
          have hne : t.untold.isEmpty = false := by simpa [Sea.can, ht] using hcan
          obtain ⟨r, rs, er⟩ : ∃ r rs, t.untold = r :: rs := by
            cases hh : t.untold with
            | nil => rw [hh] at hne; cases hne
            | cons r rs => exact ⟨r, rs, rfl⟩
          have gg := e3
          rw [er] at gg
          obtain ⟨v, us, ev, gr, gt⟩ : ∃ v vs, us = v :: vs ∧ RowR H2 v r ∧ RowsR H2 vs rs := by
            cases gg with
            | cons a b => exact ⟨_, _, rfl, a, b⟩
          obtain ⟨pr, rfl, hpr⟩ := gr
          rw [ev] at e2
          walk_at "go"
          rename_i H3 l3 m3 H4 l4 m4
          have oN : Off (tri y) H2 H4 := (m3.mono (by simp [tri])).trans (m4.mono (by simp [tri]))
          have ez : t.tell.told = t.told + r.2 := by simp [Bt.tell, er]
          have eu : t.tell.untold = rs := by simp [Bt.tell, er]
          have hx4 := hx2.setB (t' := t.tell) hy oN ⟨⟨dy, by
            rw [l4]
            show some (HO.ins _ dy (boatF (t.s_told (t.told + r.2)) _ _)) = some (HO.ins _ dy (boatF { t with told := t.tell.told } _ _))
            rw [ez]
            rfl⟩, ⟨us, m4.at (by simpa using n10.symm) l3, by rw [eu]; exact gt.off oN⟩, ⟨ks, m4.at (by simpa using n11.symm) (m3.at (by simpa using n12.symm) e4), e5.off oN⟩⟩
          have e8 : s.boats.set b t.tell = s.boats.modify b Bt.tell := (modify_set (f := Bt.tell) ht).symm
          rw [e8] at hx4
          exact ⟨_, rfl, hx4, oF.trans (oN.mono hf)⟩
        | hear b =>
          have hst' : SqT K H2 p [.str "hear", .int b] := hst
          obtain ⟨y, t, hy, ht, ⟨dy, e1⟩, ⟨us, e2, e3⟩, ⟨ks, e4, e5⟩⟩ := pk_boat' hx2 hok
          obtain ⟨⟨n1, n2, n3, n4⟩, hf, n5, n6, n7, n8, n9, n10, n11, n12⟩ := pk_ne hx2 hy
          have hne : t.unheard.isEmpty = false := by simpa [Sea.can, ht] using hcan
          obtain ⟨r, rs, er⟩ : ∃ r rs, t.unheard = r :: rs := by
            cases hh : t.unheard with
            | nil => rw [hh] at hne; cases hne
            | cons r rs => exact ⟨r, rs, rfl⟩
          have gg := e5
          rw [er] at gg
          obtain ⟨v, ks, ev, gr, gt⟩ : ∃ v vs, ks = v :: vs ∧ RowR H2 v r ∧ RowsR H2 vs rs := by
            cases gg with
            | cons a b => exact ⟨_, _, rfl, a, b⟩
          obtain ⟨pr, rfl, hpr⟩ := gr
          rw [ev] at e4
          walk_at "go"
          rename_i H3 l3 m3 H4 l4 m4
          have oN : Off (tri y) H2 H4 := (m3.mono (by simp [tri])).trans (m4.mono (by simp [tri]))
          have ez : t.hear.heard = t.heard + r.2 := by simp [Bt.hear, er]
          have eu : t.hear.unheard = rs := by simp [Bt.hear, er]
          have hx4 := hx2.setB (t' := t.hear) hy oN ⟨⟨dy, by
            rw [l4]
            show some (HO.ins _ dy (boatF (t.s_heard (t.heard + r.2)) _ _)) = some (HO.ins _ dy (boatF { t with heard := t.hear.heard } _ _))
            rw [ez]
            rfl⟩, ⟨us, m4.at (by simpa using n10.symm) (m3.at (by simpa using n12) e2), e3.off oN⟩, ⟨ks, m4.at (by simpa using n11.symm) l3, by rw [eu]; exact gt.off oN⟩⟩
          have e8 : s.boats.set b t.hear = s.boats.modify b Bt.hear := (modify_set (f := Bt.hear) ht).symm
          rw [e8] at hx4
          exact ⟨_, rfl, hx4, oF.trans (oN.mono hf)⟩
        | trade f2 t2 n =>
          have hst' : SqT K H2 p [.str "trade", .int f2, .int t2, .int n] := hst
          obtain ⟨hf2, ht2, hft, _⟩ := hok
          obtain ⟨y, t, hy, ht, _⟩ := pk_boat' hx2 hf2
          have hub := hg.ub t (List.mem_of_getElem? ht)
          walk_at "go"
          refine ⟨k, s, f2, y, t, -n, rfl, hx2, hy, ht, by omega, fun H3 hx3 o3 => ?_⟩
          obtain ⟨z, t3, hz, ht3, _⟩ := pk_boat' hx3 ht2
          have hub3 := half_ub hg f2 t2 n 1 t3 (List.mem_of_getElem? ht3)
          have hst3 := o3.seqT hst'
          clear h1 hl hst'
          obtain ⟨dq3, h1⟩ := hx3.hq
          have hl := hx3.hl
          walk_at "go"
          exact ⟨k, _, t2, z, t3, n, rfl, hx3, hz, ht3, by omega, fun H4 hx4 o4 => ⟨_, rfl, hx4, (oF.trans o3).trans o4⟩⟩
      · rintro σ H3 ⟨bx, rfl, hx3, o3⟩
        have q1' := q1 hcan
        rw [← mid_look hg] at q1'
        clear q1 h1 hl
        generalize s.mid st = s3 at *
        obtain ⟨dq3, h1⟩ := hx3.hq
        have hl := hx3.hl
        have hlen3 := Paired.length hx3.boats
        walk_at "go"
        refine lcL_at (s3.boats.map fun t => V.bl t.over) (.of hl) (by rw [List.length_map, List.length_map, hlen3]) (by rw [List.length_map, sizeLine_eq]; omega) ?_ ?_
        · intro i x y2 H4 hxi hyi o4 M N kk
          obtain ⟨y, hy, rfl⟩ : ∃ y, k.bs[i]? = some y ∧ V.ref y.1 = x := by simpa using hxi
          obtain ⟨t, ht, rfl⟩ : ∃ t, s3.boats[i]? = some t ∧ V.bl t.over = y2 := by simpa using hyi
          obtain ⟨y', hy', ⟨dy, e1⟩, _⟩ := pk_boat hx3 ht
          cases hy.symm.trans hy'
          have e2 := o4.at nin_nil e1
          walk_at "go"
          refine ⟨rfl, ?_⟩
          walk_at "go"
          exact kk _ (.refl _ _)
        · intro D H4 hD o4 e6
          have hx4 := hx3.off o4 (by simp)
          have h4 := o4.at nin_nil h1
          walk_at "go"
          refine ⟨D, s3.boats.map Bt.over, rfl, .of (by rw [e6, List.map_map]; rfl), ?_⟩
          have ez : (s3.boats.map Bt.over).any id = s3.boats.any Bt.over := by rw [List.any_map]; rfl
          rw [ez]
          walk_at "go"
          refine br_b (fun b1 => ?_) (fun b1 => ?_)
          · walk_at "go"
            rename_i H5 l5 m5
            refine q1' H5 ?_ ((o3.trans (o4.mono (by simp))).trans (m5.mono (by simp [Pk.foot])))
            have e : s3.look = { s3 with broken := true } := by
              unfold Sea.look
              rw [b1, Bool.or_true]
            rw [e]
            obtain ⟨kvs, j3, j4⟩ := hx4.hb
            have nq : k.be ≠ k.q := fun z => by rw [← z, j3] at h4; cases h4
            exact hx4.setQ (m5.mono (by simp)) ⟨_, l5⟩ ⟨_, m5.at (by simpa using nq) j3, j4⟩
          · walk_at "go"
            refine q1' H4 ?_ (o3.trans (o4.mono (by simp)))
            have e : s3.look = s3 := by
              unfold Sea.look
              rw [b1, Bool.or_false]
            rw [e]
            exact hx4
theorem ok_Season_do (T : Txt P w K mg) : MthOk P w K mg base (He.ga K "Season") "do" 4 ["self", "step"] (spDoP K) := (okL_Season_do T).ok
end
end SH
end

section
/-! #### the walk's words -/
local macro_rules | `(tactic| walk_at "ne0") => `(tactic| first
  | assumption
  | (refine Ne.symm ?_; assumption))
local macro_rules | `(tactic| walk_at "ne") => `(tactic| first
  | assumption
  | (refine Ne.symm ?_; assumption)
  | (refine' L2.ne_of_none ?gx (by assumption); (case gx => walk_at "hp"))
  | (refine' Ne.symm (L2.ne_of_none ?gx (by assumption)); (case gx => walk_at "hp")))
local macro_rules | `(tactic| walk_at "hp") => `(tactic| first
  | assumption
  | exact L2.upd_same
  | (refine' SH.upd_new ?gh (by assumption); (case gh => walk_at "hp"))
  | (refine' (L2.upd_ne ?gn).trans ?gh; (case gn => walk_at "ne0"); (case gh => walk_at "hp"))
  | (refine' SH.Off.at (by assumption) ?gn ?gh; (case gn => walk_at "nin"); (case gh => walk_at "hp")))
local macro_rules | `(tactic| walk_at "nin") => `(tactic| first
  | exact SH.nin_nil
  | (refine SH.nin_cons ?_ ?_; (· walk_at "ne0"); (· walk_at "nin")))
local macro_rules | `(tactic| walk_at "sq") => `(tactic| first
  | assumption
  | (apply L2.SqL.of; (· walk_at "hp"))
  | (apply L2.SqT.of; (· walk_at "hp"))
  | (refine' SH.seqT_new ?gx (by assumption); (case gx => walk_at "sq"))
  | (refine' SH.seqL_new ?gx (by assumption); (case gx => walk_at "sq"))
  | (refine' SH.Off.seqT (by assumption) ?gx; (case gx => walk_at "sq"))
  | (refine' SH.Off.seqL (by assumption) ?gy ?gx; (case gx => walk_at "sq"); (case gy => walk_at "nin")))
local macro_rules | `(tactic| walk_at "kd") => `(tactic| first
  | assumption | exact SH.KdV.int _ | exact SH.KdV.bl _ | exact SH.KdV.str _ | exact SH.KdV.non
  | (apply SH.KdV.tup; (· walk_at "sq")) | (apply SH.KdV.lst; (· walk_at "sq")))
/-- a way that cannot be -/
local macro_rules | `(tactic| walk_at "no") => `(tactic| (exfalso; first | assumption | omega | contradiction | (simp_all; done)))
/-- one step -/
local macro_rules | `(tactic| walk_at "g1") => `(tactic| with_reducible first
  | refine SH.g_var (by with_unfolding_all rfl) ?_ | refine SH.g_c ?_ | refine SH.g_op ?_ | refine SH.g_un ?_ | refine SH.g_I0 ?_ | refine SH.g_U ?_
  | refine SH.g_eqI ?_ | refine SH.g_neI ?_ | refine SH.g_eqS ?_ | refine SH.g_neS ?_
  | refine SH.g_test ?_ | refine SH.g_B ?_ | refine SH.g_isB ?_ | refine SH.g_and ?_ | refine SH.g_or ?_ | refine SH.g_not ?_ | refine SH.g_andV ?_ | refine SH.g_orV ?_ | refine SH.g_notV ?_ | refine SH.g_ifE ?_ | refine SH.g_chain ?_
  | refine SH.g_nil ?_ | refine SH.g_cons ?_ | refine SH.g_tup ?_ | refine SH.g_lst ?_ | refine SH.g_call ?_ | refine SH.g_fld ?_ | refine SH.g_meth ?_ | refine SH.g_make ?_ | refine SH.g_cb ?_ | refine SH.g_bm ?_
  | refine SH.g_seq ?_ | refine SH.g_asg ?_ | refine SH.g_name ?_ | refine SH.g_drop ?_ | refine SH.g_ret ?_ | refine SH.g_retN ?_ | refine SH.g_next ?_ | refine SH.g_brk ?_ | refine SH.g_cnt ?_ | refine SH.g_ifs ?_ | refine SH.g_par ?_ | refine SH.g_par2 ?_ | refine SH.g_fldS ?_ | refine SH.g_raise ?_ | refine SH.g_rs ?_
  | refine SH.g_sub ?_ | refine SH.g_yes ?_ | refine SH.g_sl ?_ | refine SH.g_noPart ?_ | refine SH.g_part ?_ | refine SH.g_intO ?_ | refine SH.g_dget ?_ | refine SH.g_dput ?_ | refine SH.g_forR ?_ | refine SH.g_forL ?_ | refine SH.g_forT ?_ | refine SH.g_lcR ?_ | refine SH.g_lcL ?_ | refine SH.g_lcT ?_ | refine SH.g_gcons ?_ | refine SH.g_gnil ?_
  | refine SH.br_t ?_ | refine SH.br_f ?_
  | refine SH.g_int ?_ | refine SH.g_abs ?_ | refine SH.g_max2 ?_ | refine SH.g_min2 ?_)
local macro_rules | `(tactic| walk_at "g2") => `(tactic| first
  | walk_at "g1"
  | ((with_reducible refine' SH.g_isiInt ?ga ?gz); (case ga => walk_at "kd"))
  | ((with_reducible refine' SH.g_isiBool ?ga ?gz); (case ga => walk_at "kd"))
  | ((with_reducible refine' SH.g_isiStr ?ga ?gz); (case ga => walk_at "kd"))
  | ((with_reducible refine' SH.g_isiTup ?ga ?gz); (case ga => walk_at "kd"))
  | ((with_reducible refine' SH.g_ixT ?ga ?gb ?gz); (case ga => walk_at "sq"); (case gb => rfl))
  | ((with_reducible refine' SH.g_ixL ?ga ?gb ?gz); (case ga => walk_at "sq"); (case gb => first | rfl | (apply SH.atI_refs; assumption)))
  | ((with_reducible refine SH.br_F ?_ ?_); (· decide +kernel)) | ((with_reducible refine SH.br_T ?_ ?_); (· decide +kernel)) | ((with_reducible refine SH.br_NF ?_ ?_); (· decide +kernel)) | ((with_reducible refine SH.br_NT ?_ ?_); (· decide +kernel))
  | ((with_reducible refine' SH.g_gtup ?ga ?gb ?gz); (case ga => walk_at "sq"); (case gb => rfl))
  | ((with_reducible refine' SH.g_lenT ?ga ?gz); (case ga => walk_at "sq"))
  | ((with_reducible refine' SH.g_lenL ?ga ?gz); (case ga => walk_at "sq"))
  | ((with_reducible refine SH.g_mkT (SH.sz rfl) ?_); intro _ _)
  | ((with_reducible refine SH.g_mkL (SH.sz rfl) ?_); intro _ _)
  | ((with_reducible refine SH.g_dnew ?_); intro _ _)
  | ((with_reducible refine' SH.g_tupL ?ga ?gz); (case ga => walk_at "sq"); intro _ _)
  | ((with_reducible refine' SH.g_lstL ?ga ?gz); (case ga => walk_at "sq"); intro _ _)
  | ((with_reducible refine' SH.g_lstT ?ga ?gz); (case ga => walk_at "sq"); intro _ _)
  | ((with_reducible refine' SH.g_dgR ?ga ?gb ?gz); (case ga => walk_at "hp"); (case gb => walk_at "dv"))
  | ((with_reducible refine' SH.g_fldR ?ga ?gb ?gc ?gd ?gz); (case ga => walk_at "hp"); (case gb => walk_at "cl"); (case gc => walk_at "na"); (case gd => walk_at "fv"))
  | ((with_reducible refine' SH.g_insR ?ga ?gb ?gz); (case ga => walk_at "hp"); (case gb => walk_at "fn"))
  | ((with_reducible refine' SH.g_setL ?ga ?gb ?gz); (case ga => walk_at "hp"); (case gb => rfl))
  | ((with_reducible refine SH.g_I ?_ ?_); (· walk_at "ci"))
  | ((with_reducible refine' SH.g_slL ?ga ?gz); (case ga => walk_at "sq"); intro _ _)
  | ((with_reducible refine' SH.g_cat ?ga ?gb ?gc ?gz); (case ga => walk_at "hp"); (case gb => walk_at "hp"); (case gc => walk_at "ls"); intro _ _))
/-- the side conditions of numbers: a divisor, a factor -/
local macro_rules | `(tactic| walk_at "ci") => `(tactic| first
  | (show _ ≠ _; omega) | (show _ < _; omega) | (constructor <;> omega) | (refine Or.inr ⟨?_, ?_⟩ <;> (show _ < _; omega)) | (refine Or.inl ⟨?_, ?_⟩ <;> (show _ < _; omega)) | (refine ⟨?_, ?_, ?_⟩ <;> decide))
local macro_rules | `(tactic| walk_at "ls") => `(tactic| first | (show _ ≤ _; exact Nat.le_trans (by assumption) (by decide)) | (show _ ≤ _; exact Nat.le_trans (by simp; omega) (by decide : 1000 ≤ sizeLine)))
local macro_rules | `(tactic| walk_at "dv") => `(tactic| rfl)
local macro_rules | `(tactic| walk_at "fv") => `(tactic| rfl)
local macro_rules | `(tactic| walk_at "fn") => `(tactic| rfl)
local macro_rules | `(tactic| walk_at "cl") => `(tactic| assumption)
local macro_rules | `(tactic| walk_at "na") => `(tactic| assumption)
local macro_rules | `(tactic| walk_at "go") => `(tactic| repeat walk_at "g2")
/-- a way is split -/
local macro_rules | `(tactic| walk_at "br") => `(tactic| with_reducible first
  | refine SH.br_d (fun _ => ?_) (fun _ => ?_) | refine SH.br_nd (fun _ => ?_) (fun _ => ?_) | refine SH.br_b (fun _ => ?_) (fun _ => ?_))
/-- all ways -/
local macro_rules | `(tactic| walk_at "all") => `(tactic| repeat' first | walk_at "g2" | (walk_at "br" <;> try (walk_at "no")))
/-- a truth value is the other -/
local macro_rules | `(tactic| walk_at "bq") => `(tactic| first | rfl | (simp_all; done) | (simp_all; omega) | (simp only [decide_eq_true_eq, decide_eq_false_iff_not, Bool.and_eq_true, Bool.or_eq_true] at *; omega))
/-- what was tracked is as it was -/
local macro_rules | `(tactic| walk_at "of") => `(tactic| first
  | assumption
  | exact SH.Off.refl _ _
  | (refine' SH.Off.new2 ?gx (by assumption); (case gx => walk_at "of"))
  | (refine' SH.Off.mut ?gx (by assumption); (case gx => walk_at "of"))
  | (refine' SH.Off.trans' ?gx (by assumption) ?gy; (case gy => (intro _ h; (first | exact h | (simp at h; done) | (simp at h ⊢; simp [h]; done)))); (case gx => walk_at "of")))
/-- the own season's dicts -/
local macro_rules | `(tactic| walk_at "dv") => `(tactic| with_reducible first
  | exact SH.bk_right | exact SH.bk_heard | exact SH.bk_landed | exact SH.bk_told | exact SH.bk_untold | exact SH.bk_unheard | exact SH.bk_present
  | exact SH.ok_own | exact SH.ok_now | exact SH.ok_boats | exact SH.ok_broken | exact SH.ok_beyond)
local macro_rules | `(tactic| walk_at "dw") => `(tactic| with_reducible first
  | exact SH.bp_right | exact SH.bp_heard | exact SH.bp_landed | exact SH.bp_told | exact SH.bp_untold | exact SH.bp_unheard | exact SH.bp_present
  | exact SH.op_now | exact SH.op_broken | exact SH.op_beyond)
local macro_rules | `(tactic| walk_at "g2") => `(tactic|
  ((with_reducible refine' SH.g_dpA ?ga ?gb ?gc ?gz); (case ga => walk_at "hp"); (case gb => walk_at "dw"); (case gc => exact SH.szk rfl); intro _ _ _))
local macro_rules | `(tactic| walk_at "sq") => `(tactic|
  ((refine' SH.seqT_put ?gx ?gy ?gz); (case gy => walk_at "hp"); (case gz => exact trivial); (case gx => walk_at "sq")))
local macro_rules | `(tactic| walk_at "g2") => `(tactic|
  ((with_reducible refine' SH.g_ixL ?ga ?gb ?gz); (case ga => walk_at "sq"); (case gb => first | rfl | (apply SH.atI_refs; assumption) | exact SH.atI_cons0)))
/-- the package's season: its instances -/
local macro_rules | `(tactic| walk_at "fv") => `(tactic| with_reducible first
  | exact SH.bf_right | exact SH.bf_heard | exact SH.bf_landed | exact SH.bf_told | exact SH.bf_untold | exact SH.bf_unheard | exact SH.bf_present
  | exact SH.pf_shares | exact SH.pf_most | exact SH.pf_late | exact SH.pf_reserve
  | exact SH.sf_plan | exact SH.sf_now | exact SH.sf_boats | exact SH.sf_broken | exact SH.sf_beyond)
local macro_rules | `(tactic| walk_at "fp") => `(tactic| with_reducible first
  | exact SH.bq_right | exact SH.bq_heard | exact SH.bq_landed | exact SH.bq_told | exact SH.bq_present | exact SH.sq_now | exact SH.sq_broken)
local macro_rules | `(tactic| walk_at "fn") => `(tactic| kernel_rfl)
local macro_rules | `(tactic| walk_at "lt") => `(tactic| (rw [PySem.sizeLine_eq]; omega))
local macro_rules | `(tactic| walk_at "g2") => `(tactic| first
  | (with_reducible first | refine SH.br_ntt ?_ | refine SH.br_ntf ?_ | refine SH.br_k ?_ | refine SH.br_nk ?_ | refine SH.g_fldAug ?_ | refine SH.g_rAdd ?_ | refine SH.g_rSub ?_)
  | ((with_reducible refine SH.br_inF ?_ ?_); (· decide +kernel)) | ((with_reducible refine SH.br_inT ?_ ?_); (· decide +kernel))
  | ((with_reducible refine' SH.g_inT ?ga ?gb ?gc ?gz); (case ga => walk_at "sq"); (case gb => exact rfl); (case gc => kernel_rfl))
  | ((with_reducible refine' SH.g_stA ?ga ?gb ?gc ?gd ?ge ?gz); (case ga => walk_at "hp"); (case gb => walk_at "cl"); (case gc => walk_at "na"); (case gd => walk_at "fp"); (case ge => exact SH.szf rfl); intro _ _ _)
  | ((with_reducible refine' SH.g_augR ?ga ?gb ?gc ?gd ?gz); (case ga => walk_at "hp"); (case gb => walk_at "cl"); (case gc => walk_at "na"); (case gd => walk_at "fv"))
  | ((with_reducible refine' SH.g_putC ?ga ?gb ?gc ?gz); (case ga => walk_at "hp"); (case gb => walk_at "fp"); (case gc => exact SH.szf rfl); intro _ _ _)
  | ((with_reducible refine' SH.g_app' ?ga ?gb ?gz); (case ga => walk_at "hp"); (case gb => walk_at "lt"); intro _ _ _)
  | ((with_reducible refine' SH.g_popF ?ga ?gz); (case ga => walk_at "hp"); intro _ _ _)
  | ((with_reducible refine' SH.g_bml ?ga ?gz); (case ga => walk_at "sq"))
  | ((with_reducible refine' SH.g_isiSelf ?ga ?gb ?gc ?gz); (case ga => walk_at "hp"); (case gb => walk_at "cl"); (case gc => walk_at "cl")))
local macro_rules | `(tactic| walk_at "g2") => `(tactic|
  ((with_reducible refine' SH.g_ixL ?ga ?gb ?gz); (case ga => walk_at "sq"); (case gb => first | rfl | (apply SH.atI_refs; assumption) | exact SH.atI_cons0 | (apply SH.atI_bs; assumption))))
namespace SH
open PySem PySem.Spec PyProof.Rows L2
/-! #### a dict that is written out -/
section
variable {σ : L2.St} {H : Hp} {Q : VK} {trs : List (TE × TE)} {tk tv : TE} {QP : List (V × V) → Hp → Prop}
def disp2 (p : Addr) (Q : VK) (ps : List (V × V)) (H2 : Hp) : Prop := H2 p = some (.dK []) ∧ ∃ kvs : List (Key × V), ps = kvs.map (fun kv => (kV kv.1, kv.2)) ∧ kvs.length ≤ 15 ∧ Q (.ref p) (upd H2 p (.dK (mergeK [] kvs)))
theorem g_disp (q : ∀ p, H p = none → tPairs trs σ (upd H p (.dK [])) (disp2 p Q)) : tDisp trs σ H Q := q
theorem g_pnil (q : QP [] H) : tPairs [] σ H QP := q
theorem g_pcons (q : tk σ H fun x H1 => tv σ H1 fun y H2 => tPairs trs σ H2 fun ps H3 => QP ((x, y) :: ps) H3) : tPairs ((tk, tv) :: trs) σ H QP := q
theorem g_disp2 {p : Addr} {ps : List (V × V)} (kvs : List (Key × V)) (h : H p = some (.dK [])) (e : ps = kvs.map (fun kv => (kV kv.1, kv.2))) (hl : kvs.length ≤ 15) (em : mergeK [] kvs = kvs) (q : ∀ H', H' p = some (.dK kvs) → Off [p] H H' → Q (.ref p) H') : disp2 p Q ps H :=
  ⟨h, kvs, e, hl, q _ (by rw [em]; exact upd_same) (.put (by simp) h trivial)⟩
end
local macro_rules | `(tactic| walk_at "g2") => `(tactic| with_reducible first | refine SH.g_pnil ?_ | refine SH.g_pcons ?_ | (refine SH.g_disp ?_; intro _ _))
def spMade (K : PySem.W.Frag) : Sp := fun vs H Q _ => ∃ (l sh : Addr) (ss : List Int) (most late reserve : Int), vs = [.ref l] ∧ H l = some (.lst [.ref sh, .int most, .int late, .int reserve]) ∧ TupN H sh (ss.map V.int) ∧ PlanOk ss most late reserve ∧
  ∀ H' p dx, H' p = some (.ins (He.ga K "Plan") dx (planF sh most late reserve)) → H p = none → Off [] H H' → Q (.ref p) H'
def spNew (K : PySem.W.Frag) : Sp := fun vs H Q _ => ∃ (l sh : Addr) (ss : List Int) (most late reserve : Int) (T : List Addr), vs = [.ref l] ∧ H l = some (.lst [.ref sh, .int most, .int late, .int reserve]) ∧ TupN H sh (ss.map V.int) ∧ PlanOk ss most late reserve ∧
  (∀ t ∈ T, ∃ o, H t = some o) ∧ l ∉ T ∧ ∀ H' d bs, OwnAt T H' d bs (Sea.new ss most late reserve) → (∀ a ∈ d :: bs, H a = none) → Off [] H H' → Q (.ref d) H'
section
variable {P : Program} {w : World} {K : PySem.W.Frag} {mg : Str → Option Value} {base : Heap}
theorem ok_law_n_made (T : Txt P w K mg) : DefOk P w K mg base "_law_n_made" 5 ["own"] (spMade K) := by
  refine T.d_law_n_made.ok sc_law_n_made (fun _ _ _ _ _ _ us hl => match us, hl with | [_], _ => rfl) (fun vs H Q E h => ?_) (fun f cdv A outer s H vs Q E hr h => ?_)
  · obtain ⟨l, sh, ss, most, late, reserve, rfl, _⟩ := h
    rfl
  · obtain ⟨l, sh, ss, most, late, reserve, rfl, h1, h2, hg, q⟩ := h
    have B := T.blt
    have hu := hu_of hr
    have M_Plan := ok_Plan_init (base := base) T
    have cl_Plan := T.cl_Plan
    have is_Plan := T.is_Plan
    refine ⟨_, (pss_one (ps_ret (pe_mk M_Plan (hr.mono (by decide)) (L2N.passes_call (L2N.takes_of rfl rfl rfl rfl) fun _ _ _ _ z => z) (pa_cons (pe_ix (ix_listK (K := K) rfl) (pv 0) pe_int (fun _ _ => rfl)) (pa_cons (pe_ix (ix_listK (K := K) rfl) (pv 0) pe_int (fun _ _ => rfl)) (pa_cons (pe_ix (ix_listK (K := K) rfl) (pv 0) pe_int (fun _ _ => rfl)) (pa_cons (pe_ix (ix_listK (K := K) rfl) (pv 0) pe_int (fun _ _ => rfl)) pa_nil))))))), ?_⟩
    walk_at "go"
    intro x dx hx hdx ndx
    have hx2 : (upd H dx (.own x)) x = none := (upd_ne ndx.symm).trans hx
    refine ⟨x, dx, sh, ss, most, late, reserve, rfl, hg, upd_same, (h2.off (.new (S := []) hdx)).off (.new (S := []) hx2), fun H' e o => ⟨rfl, ?_⟩⟩
    exact q H' x dx e hx ((Off.new hdx).trans (Off.made o hx2))
theorem ok_law_n_new (T : Txt P w K mg) : DefOk P w K mg base "_law_n_new" 1 ["own"] (spNew K) := by
  refine T.d_law_n_new.ok sc_law_n_new (fun _ _ _ _ _ _ us hl => match us, hl with | [_], _ => rfl) (fun vs H Q E h => ?_) (fun f cdv A outer s H vs Q E hr h => ?_)
  · obtain ⟨l, sh, ss, most, late, reserve, T0, rfl, _⟩ := h
    rfl
  · obtain ⟨l, sh, ss, most, late, reserve, T0, rfl, h1, h2, hg, lv, lT, q⟩ := h
    have B := T.blt
    have hu := hu_of hr
    refine ⟨_, (pss_cons (ps_setLc (i := 1) (own := [("share", 2)]) rfl sc_law_n_new.nd rfl rfl (sw_true rfl rfl rfl (by decide +kernel)) (pi_tupK (K := K) rfl (pe_ix (ix_listK (K := K) rfl) (pv 0) pe_int (fun _ _ => rfl))) (blkOk_by (own := [("share", 2)]) (N := ["own", "boats", "share"]) (sc := defScope s_law_n_new) (by decide +kernel)) (fun _ _ _ _ _ => (pg_name (i := 2) sc_law_n_new.nd rfl (by first | exact Or.inl rfl | exact Or.inr rfl))) (fun _ _ _ _ _ => pts_nil) (fun _ _ _ _ _ => (pe_disp (pps_cons pe_str (pv 2) (pps_cons pe_str (pv 2) (pps_cons pe_str pe_int (pps_cons pe_str pe_int (pps_cons pe_str (pe_lst pa_nil) (pps_cons pe_str (pe_lst pa_nil) (pps_cons pe_str pe_int pps_nil))))))) (by rfl) (by rfl) (fun z => by cases z) (by decide))))
  (pss_one (ps_ret (pe_disp (pps_cons pe_str (pv 0) (pps_cons pe_str pe_int (pps_cons pe_str (pv 1) (pps_cons pe_str pe_bl (pps_cons pe_str (pe_lst pa_nil) pps_nil))))) (by rfl) (by rfl) (fun z => by cases z) (by decide))))), ?_⟩
    walk_at "go"
    have n1 := hg.n1
    refine lcT_mk (fun D i H1 => ∃ bs : List Addr, bs.length = i ∧ H1 D = some (.lst (bs.map V.ref)) ∧ Paired (OwnB (D :: T0) H1) bs ((ss.take i).map Bt.new) ∧ bs.Nodup ∧ (∀ b ∈ bs, H b = none) ∧ Off [] H H1)
      h2.sq (fun D hD => ⟨[], rfl, upd_same, by simp; exact .nil, by simp, by simp, .new hD⟩) (fun D i H1 hD hi hP => ?_) (fun D i v H1 hD hv hP => ?_) (fun D H1 hD hP => ?_)
    · obtain ⟨bs, b1, b2, b3, b4, b5, b6⟩ := hP
      exact (h2.off b6).sq
    · obtain ⟨bs, b1, b2, b3, b4, b5, b6⟩ := hP
      obtain ⟨sv, hsv, rfl⟩ : ∃ sv, ss[i]? = some sv ∧ V.int sv = v := by simpa using hv
      walk_at "go"
      refine ⟨rfl, ?_⟩
      walk_at "go"
      rename_i b hb u hu k hk
      have nub : u ≠ b := fun z => by rw [z, upd_same] at hu; cases hu
      have nku : k ≠ u := fun z => by rw [z, upd_same] at hk; cases hk
      have hk' := (upd_back hk).1
      have nkb : k ≠ b := fun z => by rw [z, upd_same] at hk'; cases hk'
      have hu1 := (upd_back hu).1
      have hk1 := (upd_back hk').1
      refine g_disp2 (boatK (Bt.new sv) u k) (upd_new (upd_new upd_same hu) hk) rfl (Nat.le_of_ble_eq_true rfl) (by kernel_rfl) fun H5 l5 m5 => ?_
      have w1 : H5 u = some (.lst []) := m5.at (by simpa using nub) (upd_new upd_same hk)
      have w2 : H5 k = some (.lst []) := m5.at (by simpa using nkb) upd_same
      have oX : Off [] H1 H5 := Off.made ((((Off.new hu).new2 hk)).trans m5) hb
      have bD := oX.at nin_nil b2
      have nbD : D ≠ b := ne_of_none b2 hb
      have nuD : D ≠ u := ne_of_none b2 hu1
      have nkD : D ≠ k := ne_of_none b2 hk1
      have nT : ∀ a, H1 a = none → a ∉ T0 := fun a ha z => by
        obtain ⟨o', e⟩ := lv a z
        obtain ⟨o2, e2⟩ := b6.live a o' e
        rw [ha] at e2
        cases e2
      refine g_app bD (by rw [List.length_map, b1, sizeLine_eq]; have := (List.getElem?_eq_some_iff.mp hsv).1; omega) ⟨bs ++ [b], by simp [b1], by rw [upd_same, List.map_append]; rfl, ?_, ?_, ?_, (b6.trans oX).mut hD⟩
      · have oP : Off [D] H5 (upd H5 D (.lst (bs.map V.ref ++ [.ref b]))) := .put (by simp) bD trivial
        rw [List.take_add_one, hsv, List.map_append]
        refine paired_snoc (Paired.mapP b3 fun a t z => (z.off oX (by simp)).off oP (by simp)) ⟨u, k, oP.at (by simpa using nbD.symm) l5, ⟨[], oP.at (by simpa using nuD.symm) w1, .nil⟩, ⟨[], oP.at (by simpa using nkD.symm) w2, .nil⟩, ?_, ?_, ?_⟩
        · simp [nuD.symm, nT u hu1]
        · simp [nkD.symm, nT k hk1]
        · simp [nbD.symm, nT b hb]
      · rw [List.nodup_append]
        refine ⟨b4, by simp, fun a ha c hc e => ?_⟩
        rw [List.mem_singleton] at hc
        subst hc; subst e
        obtain ⟨j, hj, rfl⟩ := List.mem_iff_getElem.mp ha
        have hl := Paired.length b3
        obtain ⟨y, hy, u0, k0, q1, _⟩ := paired_get (i := j) (x := ((ss.take i).map Bt.new)[j]'(by omega)) b3 (List.getElem?_eq_getElem _)
        rw [List.getElem?_eq_getElem hj] at hy
        cases hy
        rw [hb] at q1; cases q1
      · intro a ha
        rcases List.mem_append.mp ha with ha | ha
        · exact b5 a ha
        · rw [List.mem_singleton.mp ha]; exact b6.back hb
    · obtain ⟨bs, b1, b2, b3, b4, b5, b6⟩ := hP
      walk_at "go"
      rename_i d hd be hbe
      have ndb : be ≠ d := fun z => by rw [z, upd_same] at hbe; cases hbe
      have hbe1 := (upd_back hbe).1
      refine g_disp2 (ownK l 0 D false be) (upd_new upd_same hbe) rfl (Nat.le_of_ble_eq_true rfl) (by kernel_rfl) fun H5 l5 m5 => ?_
      have oX : Off [] H1 H5 := Off.made (((Off.new hbe)).trans m5) hd
      have nT : ∀ a, H1 a = none → a ∉ T0 := fun a ha z => by
        obtain ⟨o', e⟩ := lv a z
        obtain ⟨o2, e2⟩ := b6.live a o' e
        rw [ha] at e2
        cases e2
      have nDT : D ∉ T0 := fun z => by
        obtain ⟨o', e⟩ := lv D z
        rw [hD] at e; cases e
      rw [List.length_map, List.take_length] at b3
      have hbd : ∀ b ∈ bs, d ≠ b := fun b hb e => by
        subst e
        obtain ⟨j, hj, rfl⟩ := List.mem_iff_getElem.mp hb
        have hl := Paired.length b3
        obtain ⟨y, hy, u0, k0, q1, _⟩ := paired_get (i := j) (x := (ss.map Bt.new)[j]'(by omega)) b3 (List.getElem?_eq_getElem _)
        rw [List.getElem?_eq_getElem hj] at hy
        cases hy
        rw [hd] at q1; cases q1
      refine q H5 d bs ⟨⟨l, sh, D, be, l5, oX.at nin_nil (b6.at nin_nil h1), (h2.off b6).off oX, oX.at nin_nil b2, m5.at (by simpa using ndb) upd_same, lT, nDT, nT be hbe1⟩, ?_, ?_, nT d hd, fun t ht => ?_⟩ ?_ (b6.trans oX)
      · refine Paired.mapP b3 fun a t z => ?_
        obtain ⟨u, k, q1, q2, q3, q4, q5, q6⟩ := z.off oX (by simp)
        simp only [List.mem_cons, not_or] at q4 q5 q6
        exact ⟨u, k, q1, q2, q3, q4.2, q5.2, q6.2⟩
      · exact List.nodup_cons.mpr ⟨fun z => hbd d z rfl, b4⟩
      · obtain ⟨o', e⟩ := lv t ht
        exact (b6.trans oX).live t o' e
      · intro a ha
        rcases List.mem_cons.mp ha with rfl | ha
        · exact b6.back hd
        · exact b5 a ha
end
end SH
end

section
/-! #### the walk's words -/
local macro_rules | `(tactic| walk_at "ne0") => `(tactic| first
  | assumption
  | (refine Ne.symm ?_; assumption))
local macro_rules | `(tactic| walk_at "ne") => `(tactic| first
  | assumption
  | (refine Ne.symm ?_; assumption)
  | (refine' L2.ne_of_none ?gx (by assumption); (case gx => walk_at "hp"))
  | (refine' Ne.symm (L2.ne_of_none ?gx (by assumption)); (case gx => walk_at "hp")))
local macro_rules | `(tactic| walk_at "hp") => `(tactic| first
  | assumption
  | exact L2.upd_same
  | (refine' SH.upd_new ?gh (by assumption); (case gh => walk_at "hp"))
  | (refine' (L2.upd_ne ?gn).trans ?gh; (case gn => walk_at "ne0"); (case gh => walk_at "hp"))
  | (refine' SH.Off.at (by assumption) ?gn ?gh; (case gn => walk_at "nin"); (case gh => walk_at "hp")))
local macro_rules | `(tactic| walk_at "nin") => `(tactic| first
  | exact SH.nin_nil
  | (refine SH.nin_cons ?_ ?_; (· walk_at "ne0"); (· walk_at "nin")))
local macro_rules | `(tactic| walk_at "sq") => `(tactic| first
  | assumption
  | (apply L2.SqL.of; (· walk_at "hp"))
  | (apply L2.SqT.of; (· walk_at "hp"))
  | (refine' SH.seqT_new ?gx (by assumption); (case gx => walk_at "sq"))
  | (refine' SH.seqL_new ?gx (by assumption); (case gx => walk_at "sq"))
  | (refine' SH.Off.seqT (by assumption) ?gx; (case gx => walk_at "sq"))
  | (refine' SH.Off.seqL (by assumption) ?gy ?gx; (case gx => walk_at "sq"); (case gy => walk_at "nin")))
local macro_rules | `(tactic| walk_at "kd") => `(tactic| first
  | assumption | exact SH.KdV.int _ | exact SH.KdV.bl _ | exact SH.KdV.str _ | exact SH.KdV.non
  | (apply SH.KdV.tup; (· walk_at "sq")) | (apply SH.KdV.lst; (· walk_at "sq")))
/-- a way that cannot be -/
local macro_rules | `(tactic| walk_at "no") => `(tactic| (exfalso; first | assumption | omega | contradiction | (simp_all; done)))
/-- one step -/
local macro_rules | `(tactic| walk_at "g1") => `(tactic| with_reducible first
  | refine SH.g_var (by with_unfolding_all rfl) ?_ | refine SH.g_c ?_ | refine SH.g_op ?_ | refine SH.g_un ?_ | refine SH.g_I0 ?_ | refine SH.g_U ?_
  | refine SH.g_eqI ?_ | refine SH.g_neI ?_ | refine SH.g_eqS ?_ | refine SH.g_neS ?_
  | refine SH.g_test ?_ | refine SH.g_B ?_ | refine SH.g_isB ?_ | refine SH.g_and ?_ | refine SH.g_or ?_ | refine SH.g_not ?_ | refine SH.g_andV ?_ | refine SH.g_orV ?_ | refine SH.g_notV ?_ | refine SH.g_ifE ?_ | refine SH.g_chain ?_
  | refine SH.g_nil ?_ | refine SH.g_cons ?_ | refine SH.g_tup ?_ | refine SH.g_lst ?_ | refine SH.g_call ?_ | refine SH.g_fld ?_ | refine SH.g_meth ?_ | refine SH.g_make ?_ | refine SH.g_cb ?_ | refine SH.g_bm ?_
  | refine SH.g_seq ?_ | refine SH.g_asg ?_ | refine SH.g_name ?_ | refine SH.g_drop ?_ | refine SH.g_ret ?_ | refine SH.g_retN ?_ | refine SH.g_next ?_ | refine SH.g_brk ?_ | refine SH.g_cnt ?_ | refine SH.g_ifs ?_ | refine SH.g_par ?_ | refine SH.g_par2 ?_ | refine SH.g_fldS ?_ | refine SH.g_raise ?_ | refine SH.g_rs ?_
  | refine SH.g_sub ?_ | refine SH.g_yes ?_ | refine SH.g_sl ?_ | refine SH.g_noPart ?_ | refine SH.g_part ?_ | refine SH.g_intO ?_ | refine SH.g_dget ?_ | refine SH.g_dput ?_ | refine SH.g_forR ?_ | refine SH.g_forL ?_ | refine SH.g_forT ?_ | refine SH.g_lcR ?_ | refine SH.g_lcL ?_ | refine SH.g_lcT ?_ | refine SH.g_gcons ?_ | refine SH.g_gnil ?_
  | refine SH.br_t ?_ | refine SH.br_f ?_
  | refine SH.g_int ?_ | refine SH.g_abs ?_ | refine SH.g_max2 ?_ | refine SH.g_min2 ?_)
local macro_rules | `(tactic| walk_at "g2") => `(tactic| first
  | walk_at "g1"
  | ((with_reducible refine' SH.g_isiInt ?ga ?gz); (case ga => walk_at "kd"))
  | ((with_reducible refine' SH.g_isiBool ?ga ?gz); (case ga => walk_at "kd"))
  | ((with_reducible refine' SH.g_isiStr ?ga ?gz); (case ga => walk_at "kd"))
  | ((with_reducible refine' SH.g_isiTup ?ga ?gz); (case ga => walk_at "kd"))
  | ((with_reducible refine' SH.g_ixT ?ga ?gb ?gz); (case ga => walk_at "sq"); (case gb => rfl))
  | ((with_reducible refine' SH.g_ixL ?ga ?gb ?gz); (case ga => walk_at "sq"); (case gb => first | rfl | (apply SH.atI_refs; assumption)))
  | ((with_reducible refine SH.br_F ?_ ?_); (· decide +kernel)) | ((with_reducible refine SH.br_T ?_ ?_); (· decide +kernel)) | ((with_reducible refine SH.br_NF ?_ ?_); (· decide +kernel)) | ((with_reducible refine SH.br_NT ?_ ?_); (· decide +kernel))
  | ((with_reducible refine' SH.g_gtup ?ga ?gb ?gz); (case ga => walk_at "sq"); (case gb => rfl))
  | ((with_reducible refine' SH.g_lenT ?ga ?gz); (case ga => walk_at "sq"))
  | ((with_reducible refine' SH.g_lenL ?ga ?gz); (case ga => walk_at "sq"))
  | ((with_reducible refine SH.g_mkT (SH.sz rfl) ?_); intro _ _)
  | ((with_reducible refine SH.g_mkL (SH.sz rfl) ?_); intro _ _)
  | ((with_reducible refine SH.g_dnew ?_); intro _ _)
  | ((with_reducible refine' SH.g_tupL ?ga ?gz); (case ga => walk_at "sq"); intro _ _)
  | ((with_reducible refine' SH.g_lstL ?ga ?gz); (case ga => walk_at "sq"); intro _ _)
  | ((with_reducible refine' SH.g_lstT ?ga ?gz); (case ga => walk_at "sq"); intro _ _)
  | ((with_reducible refine' SH.g_dgR ?ga ?gb ?gz); (case ga => walk_at "hp"); (case gb => walk_at "dv"))
  | ((with_reducible refine' SH.g_fldR ?ga ?gb ?gc ?gd ?gz); (case ga => walk_at "hp"); (case gb => walk_at "cl"); (case gc => walk_at "na"); (case gd => walk_at "fv"))
  | ((with_reducible refine' SH.g_insR ?ga ?gb ?gz); (case ga => walk_at "hp"); (case gb => walk_at "fn"))
  | ((with_reducible refine' SH.g_setL ?ga ?gb ?gz); (case ga => walk_at "hp"); (case gb => rfl))
  | ((with_reducible refine SH.g_I ?_ ?_); (· walk_at "ci"))
  | ((with_reducible refine' SH.g_slL ?ga ?gz); (case ga => walk_at "sq"); intro _ _)
  | ((with_reducible refine' SH.g_cat ?ga ?gb ?gc ?gz); (case ga => walk_at "hp"); (case gb => walk_at "hp"); (case gc => walk_at "ls"); intro _ _))
/-- the side conditions of numbers: a divisor, a factor -/
local macro_rules | `(tactic| walk_at "ci") => `(tactic| first
  | (show _ ≠ _; omega) | (show _ < _; omega) | (constructor <;> omega) | (refine Or.inr ⟨?_, ?_⟩ <;> (show _ < _; omega)) | (refine Or.inl ⟨?_, ?_⟩ <;> (show _ < _; omega)) | (refine ⟨?_, ?_, ?_⟩ <;> decide))
local macro_rules | `(tactic| walk_at "ls") => `(tactic| first | (show _ ≤ _; exact Nat.le_trans (by assumption) (by decide)) | (show _ ≤ _; exact Nat.le_trans (by simp; omega) (by decide : 1000 ≤ sizeLine)))
local macro_rules | `(tactic| walk_at "dv") => `(tactic| rfl)
local macro_rules | `(tactic| walk_at "fv") => `(tactic| rfl)
local macro_rules | `(tactic| walk_at "fn") => `(tactic| rfl)
local macro_rules | `(tactic| walk_at "cl") => `(tactic| assumption)
local macro_rules | `(tactic| walk_at "na") => `(tactic| assumption)
local macro_rules | `(tactic| walk_at "go") => `(tactic| repeat walk_at "g2")
/-- a way is split -/
local macro_rules | `(tactic| walk_at "br") => `(tactic| with_reducible first
  | refine SH.br_d (fun _ => ?_) (fun _ => ?_) | refine SH.br_nd (fun _ => ?_) (fun _ => ?_) | refine SH.br_b (fun _ => ?_) (fun _ => ?_))
/-- all ways -/
local macro_rules | `(tactic| walk_at "all") => `(tactic| repeat' first | walk_at "g2" | (walk_at "br" <;> try (walk_at "no")))
/-- a truth value is the other -/
local macro_rules | `(tactic| walk_at "bq") => `(tactic| first | rfl | (simp_all; done) | (simp_all; omega) | (simp only [decide_eq_true_eq, decide_eq_false_iff_not, Bool.and_eq_true, Bool.or_eq_true] at *; omega))
/-- what was tracked is as it was -/
local macro_rules | `(tactic| walk_at "of") => `(tactic| first
  | assumption
  | exact SH.Off.refl _ _
  | (refine' SH.Off.new2 ?gx (by assumption); (case gx => walk_at "of"))
  | (refine' SH.Off.mut ?gx (by assumption); (case gx => walk_at "of"))
  | (refine' SH.Off.trans' ?gx (by assumption) ?gy; (case gy => (intro _ h; (first | exact h | (simp at h; done) | (simp at h ⊢; simp [h]; done)))); (case gx => walk_at "of")))
namespace SH
open PySem PySem.Spec PyProof.Rows L2
structure PlanH (K : PySem.W.Frag) (H : Hp) (p sh : Addr) (ss : List Int) (most late reserve : Int) : Prop where
  at_ : ∃ dx, H p = some (.ins (He.ga K "Plan") dx (planF sh most late reserve))
  sh_ : TupN H sh (ss.map V.int)
  ok : PlanOk ss most late reserve
theorem PlanH.off {K : PySem.W.Frag} {S : List Addr} {H H' : Hp} {p sh : Addr} {ss : List Int} {most late reserve : Int} (h : PlanH K H p sh ss most late reserve) (o : Off S H H') (n : p ∉ S) : PlanH K H' p sh ss most late reserve := by
  obtain ⟨⟨dx, h1⟩, h2, h3⟩ := h
  exact ⟨⟨dx, o.at n h1⟩, h2.off o, h3⟩
/-- a value of another kind, where a plan is wanted -/
def OddP (K : PySem.W.Frag) (vs : List V) (H : Hp) (E : XK) : Prop := ∃ v kd, vs = [v] ∧ KdV K H v kd ∧ RaiseW (He.ga K "BadArgument") "name" (.str "plan") H E
def StepsAt (K : PySem.W.Frag) (H : Hp) (vs : List V) (sts : List Stp) : Prop := Paired (StepAt K H) vs sts
theorem StepsAt.off {K : PySem.W.Frag} {S : List Addr} {H H' : Hp} {vs : List V} {sts : List Stp} (h : StepsAt K H vs sts) (o : Off S H H') : StepsAt K H' vs sts := Paired.mapP h fun _ _ z => z.off o
theorem StepsAt.app {K : PySem.W.Frag} {H H2 : Hp} {vs : List V} {sts : List Stp} {p a : Addr} {st : Stp} (h : StepsAt K H vs sts) (hp : H p = none) (o : Off [a] (upd H p (.tup st.vs)) H2) : StepsAt K H2 (vs ++ [.ref p]) (sts ++ [st]) :=
  paired_snoc ((h.off (S := [a]) (.new hp)).off o) ⟨p, rfl, .of (o.tups _ _ upd_same)⟩
end SH
end

section
/-! #### the walk's words -/
local macro_rules | `(tactic| walk_at "ne0") => `(tactic| first
  | assumption
  | (refine Ne.symm ?_; assumption))
local macro_rules | `(tactic| walk_at "ne") => `(tactic| first
  | assumption
  | (refine Ne.symm ?_; assumption)
  | (refine' L2.ne_of_none ?gx (by assumption); (case gx => walk_at "hp"))
  | (refine' Ne.symm (L2.ne_of_none ?gx (by assumption)); (case gx => walk_at "hp")))
local macro_rules | `(tactic| walk_at "hp") => `(tactic| first
  | assumption
  | exact L2.upd_same
  | (refine' SH.upd_new ?gh (by assumption); (case gh => walk_at "hp"))
  | (refine' (L2.upd_ne ?gn).trans ?gh; (case gn => walk_at "ne0"); (case gh => walk_at "hp"))
  | (refine' SH.Off.at (by assumption) ?gn ?gh; (case gn => walk_at "nin"); (case gh => walk_at "hp")))
local macro_rules | `(tactic| walk_at "nin") => `(tactic| first
  | exact SH.nin_nil
  | (refine SH.nin_cons ?_ ?_; (· walk_at "ne0"); (· walk_at "nin")))
local macro_rules | `(tactic| walk_at "sq") => `(tactic| first
  | assumption
  | (apply L2.SqL.of; (· walk_at "hp"))
  | (apply L2.SqT.of; (· walk_at "hp"))
  | (refine' SH.seqT_new ?gx (by assumption); (case gx => walk_at "sq"))
  | (refine' SH.seqL_new ?gx (by assumption); (case gx => walk_at "sq"))
  | (refine' SH.Off.seqT (by assumption) ?gx; (case gx => walk_at "sq"))
  | (refine' SH.Off.seqL (by assumption) ?gy ?gx; (case gx => walk_at "sq"); (case gy => walk_at "nin")))
local macro_rules | `(tactic| walk_at "kd") => `(tactic| first
  | assumption | exact SH.KdV.int _ | exact SH.KdV.bl _ | exact SH.KdV.str _ | exact SH.KdV.non
  | (apply SH.KdV.tup; (· walk_at "sq")) | (apply SH.KdV.lst; (· walk_at "sq")))
/-- a way that cannot be -/
local macro_rules | `(tactic| walk_at "no") => `(tactic| (exfalso; first | assumption | omega | contradiction | (simp_all; done)))
/-- one step -/
local macro_rules | `(tactic| walk_at "g1") => `(tactic| with_reducible first
  | refine SH.g_var (by with_unfolding_all rfl) ?_ | refine SH.g_c ?_ | refine SH.g_op ?_ | refine SH.g_un ?_ | refine SH.g_I0 ?_ | refine SH.g_U ?_
  | refine SH.g_eqI ?_ | refine SH.g_neI ?_ | refine SH.g_eqS ?_ | refine SH.g_neS ?_
  | refine SH.g_test ?_ | refine SH.g_B ?_ | refine SH.g_isB ?_ | refine SH.g_and ?_ | refine SH.g_or ?_ | refine SH.g_not ?_ | refine SH.g_andV ?_ | refine SH.g_orV ?_ | refine SH.g_notV ?_ | refine SH.g_ifE ?_ | refine SH.g_chain ?_
  | refine SH.g_nil ?_ | refine SH.g_cons ?_ | refine SH.g_tup ?_ | refine SH.g_lst ?_ | refine SH.g_call ?_ | refine SH.g_fld ?_ | refine SH.g_meth ?_ | refine SH.g_make ?_ | refine SH.g_cb ?_ | refine SH.g_bm ?_
  | refine SH.g_seq ?_ | refine SH.g_asg ?_ | refine SH.g_name ?_ | refine SH.g_drop ?_ | refine SH.g_ret ?_ | refine SH.g_retN ?_ | refine SH.g_next ?_ | refine SH.g_brk ?_ | refine SH.g_cnt ?_ | refine SH.g_ifs ?_ | refine SH.g_par ?_ | refine SH.g_par2 ?_ | refine SH.g_fldS ?_ | refine SH.g_raise ?_ | refine SH.g_rs ?_
  | refine SH.g_sub ?_ | refine SH.g_yes ?_ | refine SH.g_sl ?_ | refine SH.g_noPart ?_ | refine SH.g_part ?_ | refine SH.g_intO ?_ | refine SH.g_dget ?_ | refine SH.g_dput ?_ | refine SH.g_forR ?_ | refine SH.g_forL ?_ | refine SH.g_forT ?_ | refine SH.g_lcR ?_ | refine SH.g_lcL ?_ | refine SH.g_lcT ?_ | refine SH.g_gcons ?_ | refine SH.g_gnil ?_
  | refine SH.br_t ?_ | refine SH.br_f ?_
  | refine SH.g_int ?_ | refine SH.g_abs ?_ | refine SH.g_max2 ?_ | refine SH.g_min2 ?_)
local macro_rules | `(tactic| walk_at "g2") => `(tactic| first
  | walk_at "g1"
  | ((with_reducible refine' SH.g_isiInt ?ga ?gz); (case ga => walk_at "kd"))
  | ((with_reducible refine' SH.g_isiBool ?ga ?gz); (case ga => walk_at "kd"))
  | ((with_reducible refine' SH.g_isiStr ?ga ?gz); (case ga => walk_at "kd"))
  | ((with_reducible refine' SH.g_isiTup ?ga ?gz); (case ga => walk_at "kd"))
  | ((with_reducible refine' SH.g_ixT ?ga ?gb ?gz); (case ga => walk_at "sq"); (case gb => rfl))
  | ((with_reducible refine' SH.g_ixL ?ga ?gb ?gz); (case ga => walk_at "sq"); (case gb => first | rfl | (apply SH.atI_refs; assumption)))
  | ((with_reducible refine SH.br_F ?_ ?_); (· decide +kernel)) | ((with_reducible refine SH.br_T ?_ ?_); (· decide +kernel)) | ((with_reducible refine SH.br_NF ?_ ?_); (· decide +kernel)) | ((with_reducible refine SH.br_NT ?_ ?_); (· decide +kernel))
  | ((with_reducible refine' SH.g_gtup ?ga ?gb ?gz); (case ga => walk_at "sq"); (case gb => rfl))
  | ((with_reducible refine' SH.g_lenT ?ga ?gz); (case ga => walk_at "sq"))
  | ((with_reducible refine' SH.g_lenL ?ga ?gz); (case ga => walk_at "sq"))
  | ((with_reducible refine SH.g_mkT (SH.sz rfl) ?_); intro _ _)
  | ((with_reducible refine SH.g_mkL (SH.sz rfl) ?_); intro _ _)
  | ((with_reducible refine SH.g_dnew ?_); intro _ _)
  | ((with_reducible refine' SH.g_tupL ?ga ?gz); (case ga => walk_at "sq"); intro _ _)
  | ((with_reducible refine' SH.g_lstL ?ga ?gz); (case ga => walk_at "sq"); intro _ _)
  | ((with_reducible refine' SH.g_lstT ?ga ?gz); (case ga => walk_at "sq"); intro _ _)
  | ((with_reducible refine' SH.g_dgR ?ga ?gb ?gz); (case ga => walk_at "hp"); (case gb => walk_at "dv"))
  | ((with_reducible refine' SH.g_fldR ?ga ?gb ?gc ?gd ?gz); (case ga => walk_at "hp"); (case gb => walk_at "cl"); (case gc => walk_at "na"); (case gd => walk_at "fv"))
  | ((with_reducible refine' SH.g_insR ?ga ?gb ?gz); (case ga => walk_at "hp"); (case gb => walk_at "fn"))
  | ((with_reducible refine' SH.g_setL ?ga ?gb ?gz); (case ga => walk_at "hp"); (case gb => rfl))
  | ((with_reducible refine SH.g_I ?_ ?_); (· walk_at "ci"))
  | ((with_reducible refine' SH.g_slL ?ga ?gz); (case ga => walk_at "sq"); intro _ _)
  | ((with_reducible refine' SH.g_cat ?ga ?gb ?gc ?gz); (case ga => walk_at "hp"); (case gb => walk_at "hp"); (case gc => walk_at "ls"); intro _ _))
/-- the side conditions of numbers: a divisor, a factor -/
local macro_rules | `(tactic| walk_at "ci") => `(tactic| first
  | (show _ ≠ _; omega) | (show _ < _; omega) | (constructor <;> omega) | (refine Or.inr ⟨?_, ?_⟩ <;> (show _ < _; omega)) | (refine Or.inl ⟨?_, ?_⟩ <;> (show _ < _; omega)) | (refine ⟨?_, ?_, ?_⟩ <;> decide))
local macro_rules | `(tactic| walk_at "ls") => `(tactic| first | (show _ ≤ _; exact Nat.le_trans (by assumption) (by decide)) | (show _ ≤ _; exact Nat.le_trans (by simp; omega) (by decide : 1000 ≤ sizeLine)))
local macro_rules | `(tactic| walk_at "dv") => `(tactic| rfl)
local macro_rules | `(tactic| walk_at "fv") => `(tactic| rfl)
local macro_rules | `(tactic| walk_at "fn") => `(tactic| rfl)
local macro_rules | `(tactic| walk_at "cl") => `(tactic| assumption)
local macro_rules | `(tactic| walk_at "na") => `(tactic| assumption)
local macro_rules | `(tactic| walk_at "go") => `(tactic| repeat walk_at "g2")
/-- a way is split -/
local macro_rules | `(tactic| walk_at "br") => `(tactic| with_reducible first
  | refine SH.br_d (fun _ => ?_) (fun _ => ?_) | refine SH.br_nd (fun _ => ?_) (fun _ => ?_) | refine SH.br_b (fun _ => ?_) (fun _ => ?_))
/-- all ways -/
local macro_rules | `(tactic| walk_at "all") => `(tactic| repeat' first | walk_at "g2" | (walk_at "br" <;> try (walk_at "no")))
/-- a truth value is the other -/
local macro_rules | `(tactic| walk_at "bq") => `(tactic| first | rfl | (simp_all; done) | (simp_all; omega) | (simp only [decide_eq_true_eq, decide_eq_false_iff_not, Bool.and_eq_true, Bool.or_eq_true] at *; omega))
/-- what was tracked is as it was -/
local macro_rules | `(tactic| walk_at "of") => `(tactic| first
  | assumption
  | exact SH.Off.refl _ _
  | (refine' SH.Off.new2 ?gx (by assumption); (case gx => walk_at "of"))
  | (refine' SH.Off.mut ?gx (by assumption); (case gx => walk_at "of"))
  | (refine' SH.Off.trans' ?gx (by assumption) ?gy; (case gy => (intro _ h; (first | exact h | (simp at h; done) | (simp at h ⊢; simp [h]; done)))); (case gx => walk_at "of")))
namespace SH
open PySem PySem.Spec PyProof.Rows L2
/-! ### how great a season's numbers may be -/
def rowIn (m : Int) (r : Int × Int) : Prop := (-m ≤ r.1 ∧ r.1 ≤ m) ∧ -500 ≤ r.2 ∧ r.2 ≤ 500
structure Bt.In (t : Bt) (m : Int) : Prop where
  right : -m ≤ t.right ∧ t.right ≤ m
  heard : -m ≤ t.heard ∧ t.heard ≤ m
  landed : -m ≤ t.landed ∧ t.landed ≤ m
  told : -m ≤ t.told ∧ t.told ≤ m
  untold : ∀ r ∈ t.untold, rowIn m r
  unheard : ∀ r ∈ t.unheard, rowIn m r
theorem rowIn.mono {m m' : Int} {r : Int × Int} (h : rowIn m r) (a : m ≤ m') : rowIn m' r := by
  obtain ⟨⟨h1, h2⟩, h3, h4⟩ := h
  exact ⟨⟨by omega, by omega⟩, h3, h4⟩
theorem Bt.In.mono {t : Bt} {m m' : Int} (h : t.In m) (a : m ≤ m') : t.In m' := by
  obtain ⟨⟨a1, a2⟩, ⟨b1, b2⟩, ⟨c1, c2⟩, ⟨d1, d2⟩, u, v⟩ := h
  exact ⟨⟨by omega, by omega⟩, ⟨by omega, by omega⟩, ⟨by omega, by omega⟩, ⟨by omega, by omega⟩, fun r hr => (u r hr).mono a, fun r hr => (v r hr).mono a⟩
structure Sea.Big (s : Sea) (c : Nat) : Prop where
  now : 0 ≤ s.now ∧ s.now ≤ c
  bts : ∀ t ∈ s.boats, t.In (500 * ((c : Int) + 1))
theorem Sea.Big.look {s : Sea} {c : Nat} (h : s.Big c) : s.look.Big c := ⟨h.now, h.bts⟩
theorem headD_in {m : Int} {l : List (Int × Int)} (h : ∀ r ∈ l, rowIn m r) : -500 ≤ (l.headD (0, 0)).2 ∧ (l.headD (0, 0)).2 ≤ 500 := by
  cases l with
  | nil => exact ⟨by decide, by decide⟩
  | cons r l => exact (h r List.mem_cons_self).2
theorem Sea.Big.mod {s : Sea} {c : Nat} (h : s.Big c) {f : Bt → Bt} {i : Nat} {l : List Bt} {m m' : Int} (hl : ∀ t ∈ l, t.In m) (a : m ≤ m') (hf : ∀ t, t.In m → (f t).In m') : ∀ t ∈ l.modify i f, t.In m' := by
  intro t ht
  rcases mem_modify ht with ht | ⟨y, hy, rfl⟩
  · exact (hl t ht).mono a
  · exact hf y (hl y hy)
theorem Bt.land_in {t : Bt} {m m' now n : Int} (h : t.In m) (a : m + 500 ≤ m') (b : 0 ≤ now ∧ now ≤ m) (d : 1 ≤ n ∧ n ≤ 20) : (t.land now n).In m' := by
  have h' := h.mono (show m ≤ m' by omega)
  refine ⟨h'.right, h'.heard, ?_, h'.told, ?_, h'.unheard⟩
  · have := h.landed
    show -m' ≤ t.landed + n ∧ t.landed + n ≤ m'
    omega
  · intro r hr
    rcases List.mem_append.mp (show r ∈ t.untold ++ [(now, n)] from hr) with hr | hr
    · exact h'.untold r hr
    · have e := List.mem_singleton.mp hr
      subst e
      exact ⟨⟨by show -m' ≤ now; omega, by show now ≤ m'; omega⟩, by show -500 ≤ n; omega, by show n ≤ 500; omega⟩
theorem Bt.tell_in {t : Bt} {m m' : Int} (h : t.In m) (a : m + 500 ≤ m') : t.tell.In m' := by
  have h' := h.mono (show m ≤ m' by omega)
  refine ⟨h'.right, h'.heard, h'.landed, ?_, fun r hr => h'.untold r (List.mem_of_mem_tail hr), h'.unheard⟩
  have := h.told
  have := headD_in h.untold
  show -m' ≤ t.told + (t.untold.headD (0, 0)).2 ∧ t.told + (t.untold.headD (0, 0)).2 ≤ m'
  omega
theorem Bt.hear_in {t : Bt} {m m' : Int} (h : t.In m) (a : m + 500 ≤ m') : t.hear.In m' := by
  have h' := h.mono (show m ≤ m' by omega)
  refine ⟨h'.right, ?_, h'.landed, h'.told, h'.untold, fun r hr => h'.unheard r (List.mem_of_mem_tail hr)⟩
  have := h.heard
  have := headD_in h.unheard
  show -m' ≤ t.heard + (t.unheard.headD (0, 0)).2 ∧ t.heard + (t.unheard.headD (0, 0)).2 ≤ m'
  omega
theorem Bt.change_in {t : Bt} {m m' now n : Int} (h : t.In m) (a : m + 500 ≤ m') (b : 0 ≤ now ∧ now ≤ m) (d : -500 ≤ n ∧ n ≤ 500) : (t.change now n).In m' := by
  have h' := h.mono (show m ≤ m' by omega)
  refine ⟨?_, h'.heard, h'.landed, h'.told, h'.untold, ?_⟩
  · have := h.right
    show -m' ≤ t.right + n ∧ t.right + n ≤ m'
    omega
  · intro r hr
    rcases List.mem_append.mp (show r ∈ t.unheard ++ [(now, n)] from hr) with hr | hr
    · exact h'.unheard r hr
    · have e := List.mem_singleton.mp hr
      subst e
      exact ⟨⟨by show -m' ≤ now; omega, by show now ≤ m'; omega⟩, by show -500 ≤ n; omega, by show n ≤ 500; omega⟩
theorem modify_two {α : Type} {P R : α → Prop} {f g : α → α} {i j : Nat} {l : List α} (n : i ≠ j) (hl : ∀ t ∈ l, P t) (hp : ∀ t, P t → R t) (hf : ∀ t, P t → R (f t)) (hg : ∀ t, P t → R (g t)) : ∀ t ∈ (l.modify i f).modify j g, R t := by
  intro t ht
  obtain ⟨k, hk⟩ := List.mem_iff_getElem?.mp ht
  rw [List.getElem?_modify, List.getElem?_modify] at hk
  rcases e : l[k]? with _ | y
  · rw [e] at hk; simp at hk
  · have hy := hl y (List.mem_of_getElem? e)
    rw [e] at hk
    by_cases h1 : i = k
    · have h2 : ¬ j = k := fun z => n (h1.trans z.symm)
      simp [h1, h2] at hk
      rw [← hk]; exact hf y hy
    · by_cases h2 : j = k
      · simp [h1, h2] at hk
        rw [← hk]; exact hg y hy
      · simp [h1, h2] at hk
        rw [← hk]; exact hp y hy
theorem Sea.do_big {s : Sea} {c n : Nat} (h : s.Big c) {st : Stp} (ok : st.ok n) : (s.do' st).Big (c + 1) := by
  have hn := h.now
  have e : (500 * ((c : Int) + 1)) + 500 ≤ 500 * (((c + 1 : Nat) : Int) + 1) := by omega
  have e' : 500 * ((c : Int) + 1) ≤ 500 * (((c + 1 : Nat) : Int) + 1) := by omega
  have hn' : 0 ≤ s.now ∧ s.now ≤ 500 * ((c : Int) + 1) := by omega
  have hm : 0 ≤ s.now ∧ s.now ≤ ((c + 1 : Nat) : Int) := by omega
  cases st with
  | tick =>
    refine ⟨by show 0 ≤ s.now + 1 ∧ s.now + 1 ≤ ((c + 1 : Nat) : Int); omega, fun t ht => ?_⟩
    obtain ⟨y, hy, rfl⟩ := List.mem_map.mp ht
    have z := (h.bts y hy).mono e'
    exact ⟨z.right, z.heard, z.landed, z.told, z.untold, z.unheard⟩
  | land b k =>
    obtain ⟨_, k1, k2⟩ := ok
    exact Sea.Big.look (s := { s with boats := s.boats.modify b fun t => t.land s.now k, bm := _ }) ⟨hm, h.mod h.bts e' fun t ht => Bt.land_in ht e hn' ⟨k1, k2⟩⟩
  | tell b => exact Sea.Big.look (s := { s with boats := s.boats.modify b Bt.tell }) ⟨hm, h.mod h.bts e' fun t ht => Bt.tell_in ht e⟩
  | hear b => exact Sea.Big.look (s := { s with boats := s.boats.modify b Bt.hear }) ⟨hm, h.mod h.bts e' fun t ht => Bt.hear_in ht e⟩
  | trade f t k =>
    obtain ⟨_, _, ne, k1, k2⟩ := ok
    exact Sea.Big.look (s := { s with boats := (s.boats.modify f fun x => x.change s.now (-k)).modify t fun x => x.change s.now k })
      ⟨hm, modify_two ne h.bts (fun x hx => hx.mono e') (fun x hx => Bt.change_in hx e hn' (by omega)) fun x hx => Bt.change_in hx e hn' (by omega)⟩
theorem Sea.new_big {ss : List Int} {most late reserve : Int} (h : PlanOk ss most late reserve) : (Sea.new ss most late reserve).Big 0 := by
  refine ⟨by show (0 : Int) ≤ 0 ∧ (0 : Int) ≤ 0; omega, fun t ht => ?_⟩
  obtain ⟨x, hx, rfl⟩ := List.mem_map.mp ht
  have := h.s0 x hx
  refine ⟨?_, ?_, ?_, ?_, fun r hr => (by cases hr), fun r hr => (by cases hr)⟩
  · show _ ≤ x ∧ x ≤ _
    omega
  · show _ ≤ x ∧ x ≤ _
    omega
  · show _ ≤ (0 : Int) ∧ (0 : Int) ≤ _
    omega
  · show _ ≤ (0 : Int) ∧ (0 : Int) ≤ _
    omega
/-! ### its data -/
def boatD (t : Bt) : PyData := .tuple [.int t.right, .int t.landed, .int t.told, .int t.heard, .tuple (t.untold.map rowD), .tuple (t.unheard.map rowD)]
def seaD (s : Sea) : PyData := .list ([.int s.now, .bool s.broken, .list ((beyL s.bl s.bm).map PyData.str)] ++ s.boats.map boatD)
theorem small {i m : Int} (h : -m ≤ i ∧ i ≤ m) (a : m ≤ 900000000000) : i.natAbs < 1000000000000 := by omega
theorem rows_shw {m : Int} (a : m ≤ 900000000000) : ∀ {rs : List (Int × Int)}, (∀ r ∈ rs, rowIn m r) → ShwL (rs.map rowD) (83 * rs.length) 1
  | [], _ => ShwL.nil.mono (Nat.zero_le _) (Nat.zero_le _)
  | r :: rs, h => by
    have h1 := h r List.mem_cons_self
    have z := ShwL.cons (ShwL.cons (.int (small h1.1 a)) (ShwL.cons (.int (small h1.2 (by omega))) .nil)).tup (rows_shw a fun r hr => h r (List.mem_cons_of_mem _ hr))
    exact z.mono (by rw [List.length_cons]; omega) (Nat.le_refl _)
theorem boat_shw {t : Bt} {m : Int} {k : Nat} (h : t.In m) (a : m ≤ 900000000000) (hu : t.untold.length ≤ k) (hv : t.unheard.length ≤ k) : Shw (boatD t) (170 + 166 * k) 3 := by
  have i : ∀ {x : Int}, -m ≤ x ∧ x ≤ m → Shw (.int x) 40 2 := fun z => (Shw.int (small z a)).mono (Nat.le_refl _) (by decide)
  have z := ShwL.cons (i h.right) (.cons (i h.landed) (.cons (i h.told) (.cons (i h.heard) (.cons (rows_shw a h.untold).tup (.cons (rows_shw a h.unheard).tup (ShwL.nil.mono (Nat.le_refl _) (Nat.zero_le _)))))))
  exact z.tup.mono (by omega) (by decide)
theorem boats_shw {m : Int} {k : Nat} (a : m ≤ 900000000000) : ∀ {ts : List Bt}, (∀ t ∈ ts, t.In m ∧ t.untold.length ≤ k ∧ t.unheard.length ≤ k) → ShwL (ts.map boatD) ((171 + 166 * k) * ts.length) 3
  | [], _ => ShwL.nil.mono (Nat.zero_le _) (Nat.zero_le _)
  | t :: ts, h => by
    obtain ⟨h1, h2, h3⟩ := h t List.mem_cons_self
    have z := ShwL.cons (boat_shw h1 a h2 h3) (boats_shw (k := k) a fun r hr => h r (List.mem_cons_of_mem _ hr))
    refine z.mono ?_ (Nat.le_refl _)
    rw [List.length_cons, Nat.mul_succ]
    omega
theorem bey_shw (bl bm : Bool) : ShwL ((beyL bl bm).map PyData.str) 20 0 := by
  cases bl <;> cases bm <;> exact ⟨by kernel_rfl, by kernel_rfl, by kernel_rfl, by kernel_rfl, by decide +kernel, by decide +kernel⟩
theorem sea_shw {s : Sea} {c : Nat} (g : s.Good c) (b : s.Big c) (hc : c ≤ 100) : Shw (seaD s) 1000000 60 := by
  have n1 := g.plan.n1
  have hl := g.len
  have z := boats_shw (m := 500 * ((c : Int) + 1)) (k := 200) (by omega) (ts := s.boats) fun t ht => ⟨b.bts t ht, by have := g.ub t ht; omega, by have := g.ub t ht; omega⟩
  have w : Shw (.int s.now) 40 3 := (Shw.int (by have := b.now; omega)).mono (Nat.le_refl _) (by decide)
  have y := ShwL.cons w (.cons ((Shw.bool s.broken).mono (Nat.le_refl _) (by decide : 0 ≤ 3)) (.cons ((bey_shw s.bl s.bm).lst.mono (Nat.le_refl _) (by decide : 1 ≤ 3)) z))
  refine y.lst.mono ?_ (by decide)
  omega
/-- data that nothing changes: numbers, texts, tuples of such -/
def Fz (K : PySem.W.Frag) (H : Hp) (v : V) (d : PyData) : Prop := ∀ (S : List Addr) (H' : Hp), Off S H H' → Dp K H' v d
theorem Fz.dp {K : PySem.W.Frag} {H : Hp} {v : V} {d : PyData} (h : Fz K H v d) : Dp K H v d := h [] H (.refl _ _)
theorem Fz.off {K : PySem.W.Frag} {S : List Addr} {H H' : Hp} {v : V} {d : PyData} (h : Fz K H v d) (o : Off S H H') : Fz K H' v d := fun S' H'' o' => h (S ++ S') H'' ((o.mono fun a ha => List.mem_append_left _ ha).trans (o'.mono fun a ha => List.mem_append_right _ ha))
theorem Fz.int {K : PySem.W.Frag} {H : Hp} (i : Int) : Fz K H (.int i) (.int i) := fun _ _ _ => .int i
theorem Fz.rows {K : PySem.W.Frag} {H : Hp} {p : Addr} {xs : List V} {rs : List (Int × Int)} (h : H p = some (.tup xs)) (r : RowsR H xs rs) : Fz K H (.ref p) (.tuple (rs.map rowD)) :=
  fun _ _ o => .tup (.of (o.tups _ _ h)) (RowsR.dpAll (r.off o))
def FzL (K : PySem.W.Frag) (H : Hp) (vs : List V) (ds : List PyData) : Prop := Paired (Fz K H) vs ds
theorem FzL.off {K : PySem.W.Frag} {S : List Addr} {H H' : Hp} {vs : List V} {ds : List PyData} (h : FzL K H vs ds) (o : Off S H H') : FzL K H' vs ds := Paired.mapP h fun _ _ z => z.off o
theorem FzL.dp {K : PySem.W.Frag} {H : Hp} : ∀ {vs : List V} {ds : List PyData}, FzL K H vs ds → DpAll K H vs ds
  | _, _, .nil => .nil
  | _, _, .cons h t => .cons h.dp (FzL.dp t)
theorem Fz.tup {K : PySem.W.Frag} {H : Hp} {p : Addr} {vs : List V} {ds : List PyData} (h : H p = some (.tup vs)) (t : FzL K H vs ds) : Fz K H (.ref p) (.tuple ds) := fun _ _ o => .tup (.of (o.tups _ _ h)) (t.off o).dp
theorem strs_dpAll {K : PySem.W.Frag} {H : Hp} : ∀ ns : List Str, DpAll K H (ns.map V.str) (ns.map PyData.str)
  | [] => .nil
  | n :: ns => .cons (.str n) (strs_dpAll ns)
theorem DpAll.append {K : PySem.W.Frag} {H : Hp} : ∀ {vs ws : List V} {ds es : List PyData}, DpAll K H vs ds → DpAll K H ws es → DpAll K H (vs ++ ws) (ds ++ es)
  | _, _, _, _, .nil, t => t
  | _, _, _, _, .cons h r, t => .cons h (DpAll.append r t)
theorem sea_dp {K : PySem.W.Frag} {H : Hp} {a l : Addr} {s : Sea} {ts : List V} (h : H a = some (.lst ([.int s.now, .bl s.broken, .ref l] ++ ts))) (hl : H l = some (.lst ((beyL s.bl s.bm).map V.str))) (hz : FzL K H ts (s.boats.map boatD)) : Dp K H (.ref a) (seaD s) :=
  .lst (.of h) (.cons (.int _) (.cons (.bl _) (.cons (.lst (.of hl) (strs_dpAll _)) hz.dp)))
end SH
end

section
/-! #### the walk's words -/
local macro_rules | `(tactic| walk_at "ne0") => `(tactic| first
  | assumption
  | (refine Ne.symm ?_; assumption))
local macro_rules | `(tactic| walk_at "ne") => `(tactic| first
  | assumption
  | (refine Ne.symm ?_; assumption)
  | (refine' L2.ne_of_none ?gx (by assumption); (case gx => walk_at "hp"))
  | (refine' Ne.symm (L2.ne_of_none ?gx (by assumption)); (case gx => walk_at "hp")))
local macro_rules | `(tactic| walk_at "hp") => `(tactic| first
  | assumption
  | exact L2.upd_same
  | (refine' SH.upd_new ?gh (by assumption); (case gh => walk_at "hp"))
  | (refine' (L2.upd_ne ?gn).trans ?gh; (case gn => walk_at "ne0"); (case gh => walk_at "hp"))
  | (refine' SH.Off.at (by assumption) ?gn ?gh; (case gn => walk_at "nin"); (case gh => walk_at "hp")))
local macro_rules | `(tactic| walk_at "nin") => `(tactic| first
  | exact SH.nin_nil
  | (refine SH.nin_cons ?_ ?_; (· walk_at "ne0"); (· walk_at "nin")))
local macro_rules | `(tactic| walk_at "sq") => `(tactic| first
  | assumption
  | (apply L2.SqL.of; (· walk_at "hp"))
  | (apply L2.SqT.of; (· walk_at "hp"))
  | (refine' SH.seqT_new ?gx (by assumption); (case gx => walk_at "sq"))
  | (refine' SH.seqL_new ?gx (by assumption); (case gx => walk_at "sq"))
  | (refine' SH.Off.seqT (by assumption) ?gx; (case gx => walk_at "sq"))
  | (refine' SH.Off.seqL (by assumption) ?gy ?gx; (case gx => walk_at "sq"); (case gy => walk_at "nin")))
local macro_rules | `(tactic| walk_at "kd") => `(tactic| first
  | assumption | exact SH.KdV.int _ | exact SH.KdV.bl _ | exact SH.KdV.str _ | exact SH.KdV.non
  | (apply SH.KdV.tup; (· walk_at "sq")) | (apply SH.KdV.lst; (· walk_at "sq")))
/-- a way that cannot be -/
local macro_rules | `(tactic| walk_at "no") => `(tactic| (exfalso; first | assumption | omega | contradiction | (simp_all; done)))
/-- one step -/
local macro_rules | `(tactic| walk_at "g1") => `(tactic| with_reducible first
  | refine SH.g_var (by with_unfolding_all rfl) ?_ | refine SH.g_c ?_ | refine SH.g_op ?_ | refine SH.g_un ?_ | refine SH.g_I0 ?_ | refine SH.g_U ?_
  | refine SH.g_eqI ?_ | refine SH.g_neI ?_ | refine SH.g_eqS ?_ | refine SH.g_neS ?_
  | refine SH.g_test ?_ | refine SH.g_B ?_ | refine SH.g_isB ?_ | refine SH.g_and ?_ | refine SH.g_or ?_ | refine SH.g_not ?_ | refine SH.g_andV ?_ | refine SH.g_orV ?_ | refine SH.g_notV ?_ | refine SH.g_ifE ?_ | refine SH.g_chain ?_
  | refine SH.g_nil ?_ | refine SH.g_cons ?_ | refine SH.g_tup ?_ | refine SH.g_lst ?_ | refine SH.g_call ?_ | refine SH.g_fld ?_ | refine SH.g_meth ?_ | refine SH.g_make ?_ | refine SH.g_cb ?_ | refine SH.g_bm ?_
  | refine SH.g_seq ?_ | refine SH.g_asg ?_ | refine SH.g_name ?_ | refine SH.g_drop ?_ | refine SH.g_ret ?_ | refine SH.g_retN ?_ | refine SH.g_next ?_ | refine SH.g_brk ?_ | refine SH.g_cnt ?_ | refine SH.g_ifs ?_ | refine SH.g_par ?_ | refine SH.g_par2 ?_ | refine SH.g_fldS ?_ | refine SH.g_raise ?_ | refine SH.g_rs ?_
  | refine SH.g_sub ?_ | refine SH.g_yes ?_ | refine SH.g_sl ?_ | refine SH.g_noPart ?_ | refine SH.g_part ?_ | refine SH.g_intO ?_ | refine SH.g_dget ?_ | refine SH.g_dput ?_ | refine SH.g_forR ?_ | refine SH.g_forL ?_ | refine SH.g_forT ?_ | refine SH.g_lcR ?_ | refine SH.g_lcL ?_ | refine SH.g_lcT ?_ | refine SH.g_gcons ?_ | refine SH.g_gnil ?_
  | refine SH.br_t ?_ | refine SH.br_f ?_
  | refine SH.g_int ?_ | refine SH.g_abs ?_ | refine SH.g_max2 ?_ | refine SH.g_min2 ?_)
local macro_rules | `(tactic| walk_at "g2") => `(tactic| first
  | walk_at "g1"
  | ((with_reducible refine' SH.g_isiInt ?ga ?gz); (case ga => walk_at "kd"))
  | ((with_reducible refine' SH.g_isiBool ?ga ?gz); (case ga => walk_at "kd"))
  | ((with_reducible refine' SH.g_isiStr ?ga ?gz); (case ga => walk_at "kd"))
  | ((with_reducible refine' SH.g_isiTup ?ga ?gz); (case ga => walk_at "kd"))
  | ((with_reducible refine' SH.g_ixT ?ga ?gb ?gz); (case ga => walk_at "sq"); (case gb => rfl))
  | ((with_reducible refine' SH.g_ixL ?ga ?gb ?gz); (case ga => walk_at "sq"); (case gb => first | rfl | (apply SH.atI_refs; assumption)))
  | ((with_reducible refine SH.br_F ?_ ?_); (· decide +kernel)) | ((with_reducible refine SH.br_T ?_ ?_); (· decide +kernel)) | ((with_reducible refine SH.br_NF ?_ ?_); (· decide +kernel)) | ((with_reducible refine SH.br_NT ?_ ?_); (· decide +kernel))
  | ((with_reducible refine' SH.g_gtup ?ga ?gb ?gz); (case ga => walk_at "sq"); (case gb => rfl))
  | ((with_reducible refine' SH.g_lenT ?ga ?gz); (case ga => walk_at "sq"))
  | ((with_reducible refine' SH.g_lenL ?ga ?gz); (case ga => walk_at "sq"))
  | ((with_reducible refine SH.g_mkT (SH.sz rfl) ?_); intro _ _)
  | ((with_reducible refine SH.g_mkL (SH.sz rfl) ?_); intro _ _)
  | ((with_reducible refine SH.g_dnew ?_); intro _ _)
  | ((with_reducible refine' SH.g_tupL ?ga ?gz); (case ga => walk_at "sq"); intro _ _)
  | ((with_reducible refine' SH.g_lstL ?ga ?gz); (case ga => walk_at "sq"); intro _ _)
  | ((with_reducible refine' SH.g_lstT ?ga ?gz); (case ga => walk_at "sq"); intro _ _)
  | ((with_reducible refine' SH.g_dgR ?ga ?gb ?gz); (case ga => walk_at "hp"); (case gb => walk_at "dv"))
  | ((with_reducible refine' SH.g_fldR ?ga ?gb ?gc ?gd ?gz); (case ga => walk_at "hp"); (case gb => walk_at "cl"); (case gc => walk_at "na"); (case gd => walk_at "fv"))
  | ((with_reducible refine' SH.g_insR ?ga ?gb ?gz); (case ga => walk_at "hp"); (case gb => walk_at "fn"))
  | ((with_reducible refine' SH.g_setL ?ga ?gb ?gz); (case ga => walk_at "hp"); (case gb => rfl))
  | ((with_reducible refine SH.g_I ?_ ?_); (· walk_at "ci"))
  | ((with_reducible refine' SH.g_slL ?ga ?gz); (case ga => walk_at "sq"); intro _ _)
  | ((with_reducible refine' SH.g_cat ?ga ?gb ?gc ?gz); (case ga => walk_at "hp"); (case gb => walk_at "hp"); (case gc => walk_at "ls"); intro _ _))
/-- the side conditions of numbers: a divisor, a factor -/
local macro_rules | `(tactic| walk_at "ci") => `(tactic| first
  | (show _ ≠ _; omega) | (show _ < _; omega) | (constructor <;> omega) | (refine Or.inr ⟨?_, ?_⟩ <;> (show _ < _; omega)) | (refine Or.inl ⟨?_, ?_⟩ <;> (show _ < _; omega)) | (refine ⟨?_, ?_, ?_⟩ <;> decide))
local macro_rules | `(tactic| walk_at "ls") => `(tactic| first | (show _ ≤ _; exact Nat.le_trans (by assumption) (by decide)) | (show _ ≤ _; exact Nat.le_trans (by simp; omega) (by decide : 1000 ≤ sizeLine)))
local macro_rules | `(tactic| walk_at "dv") => `(tactic| rfl)
local macro_rules | `(tactic| walk_at "fv") => `(tactic| rfl)
local macro_rules | `(tactic| walk_at "fn") => `(tactic| rfl)
local macro_rules | `(tactic| walk_at "cl") => `(tactic| assumption)
local macro_rules | `(tactic| walk_at "na") => `(tactic| assumption)
local macro_rules | `(tactic| walk_at "go") => `(tactic| repeat walk_at "g2")
/-- a way is split -/
local macro_rules | `(tactic| walk_at "br") => `(tactic| with_reducible first
  | refine SH.br_d (fun _ => ?_) (fun _ => ?_) | refine SH.br_nd (fun _ => ?_) (fun _ => ?_) | refine SH.br_b (fun _ => ?_) (fun _ => ?_))
/-- all ways -/
local macro_rules | `(tactic| walk_at "all") => `(tactic| repeat' first | walk_at "g2" | (walk_at "br" <;> try (walk_at "no")))
/-- a truth value is the other -/
local macro_rules | `(tactic| walk_at "bq") => `(tactic| first | rfl | (simp_all; done) | (simp_all; omega) | (simp only [decide_eq_true_eq, decide_eq_false_iff_not, Bool.and_eq_true, Bool.or_eq_true] at *; omega))
/-- what was tracked is as it was -/
local macro_rules | `(tactic| walk_at "of") => `(tactic| first
  | assumption
  | exact SH.Off.refl _ _
  | (refine' SH.Off.new2 ?gx (by assumption); (case gx => walk_at "of"))
  | (refine' SH.Off.mut ?gx (by assumption); (case gx => walk_at "of"))
  | (refine' SH.Off.trans' ?gx (by assumption) ?gy; (case gy => (intro _ h; (first | exact h | (simp at h; done) | (simp at h ⊢; simp [h]; done)))); (case gx => walk_at "of")))
/-- the own season's dicts -/
local macro_rules | `(tactic| walk_at "dv") => `(tactic| with_reducible first
  | exact SH.bk_right | exact SH.bk_heard | exact SH.bk_landed | exact SH.bk_told | exact SH.bk_untold | exact SH.bk_unheard | exact SH.bk_present
  | exact SH.ok_own | exact SH.ok_now | exact SH.ok_boats | exact SH.ok_broken | exact SH.ok_beyond)
local macro_rules | `(tactic| walk_at "dw") => `(tactic| with_reducible first
  | exact SH.bp_right | exact SH.bp_heard | exact SH.bp_landed | exact SH.bp_told | exact SH.bp_untold | exact SH.bp_unheard | exact SH.bp_present
  | exact SH.op_now | exact SH.op_broken | exact SH.op_beyond)
local macro_rules | `(tactic| walk_at "g2") => `(tactic|
  ((with_reducible refine' SH.g_dpA ?ga ?gb ?gc ?gz); (case ga => walk_at "hp"); (case gb => walk_at "dw"); (case gc => exact SH.szk rfl); intro _ _ _))
local macro_rules | `(tactic| walk_at "sq") => `(tactic|
  ((refine' SH.seqT_put ?gx ?gy ?gz); (case gy => walk_at "hp"); (case gz => exact trivial); (case gx => walk_at "sq")))
local macro_rules | `(tactic| walk_at "g2") => `(tactic|
  ((with_reducible refine' SH.g_ixL ?ga ?gb ?gz); (case ga => walk_at "sq"); (case gb => first | rfl | (apply SH.atI_refs; assumption) | exact SH.atI_cons0)))
/-- the package's season: its instances -/
local macro_rules | `(tactic| walk_at "fv") => `(tactic| with_reducible first
  | exact SH.bf_right | exact SH.bf_heard | exact SH.bf_landed | exact SH.bf_told | exact SH.bf_untold | exact SH.bf_unheard | exact SH.bf_present
  | exact SH.pf_shares | exact SH.pf_most | exact SH.pf_late | exact SH.pf_reserve
  | exact SH.sf_plan | exact SH.sf_now | exact SH.sf_boats | exact SH.sf_broken | exact SH.sf_beyond)
local macro_rules | `(tactic| walk_at "fp") => `(tactic| with_reducible first
  | exact SH.bq_right | exact SH.bq_heard | exact SH.bq_landed | exact SH.bq_told | exact SH.bq_present | exact SH.sq_now | exact SH.sq_broken)
local macro_rules | `(tactic| walk_at "fn") => `(tactic| kernel_rfl)
local macro_rules | `(tactic| walk_at "lt") => `(tactic| (rw [PySem.sizeLine_eq]; omega))
local macro_rules | `(tactic| walk_at "g2") => `(tactic| first
  | (with_reducible first | refine SH.br_ntt ?_ | refine SH.br_ntf ?_ | refine SH.br_k ?_ | refine SH.br_nk ?_ | refine SH.g_fldAug ?_ | refine SH.g_rAdd ?_ | refine SH.g_rSub ?_)
  | ((with_reducible refine SH.br_inF ?_ ?_); (· decide +kernel)) | ((with_reducible refine SH.br_inT ?_ ?_); (· decide +kernel))
  | ((with_reducible refine' SH.g_inT ?ga ?gb ?gc ?gz); (case ga => walk_at "sq"); (case gb => exact rfl); (case gc => kernel_rfl))
  | ((with_reducible refine' SH.g_stA ?ga ?gb ?gc ?gd ?ge ?gz); (case ga => walk_at "hp"); (case gb => walk_at "cl"); (case gc => walk_at "na"); (case gd => walk_at "fp"); (case ge => exact SH.szf rfl); intro _ _ _)
  | ((with_reducible refine' SH.g_augR ?ga ?gb ?gc ?gd ?gz); (case ga => walk_at "hp"); (case gb => walk_at "cl"); (case gc => walk_at "na"); (case gd => walk_at "fv"))
  | ((with_reducible refine' SH.g_putC ?ga ?gb ?gc ?gz); (case ga => walk_at "hp"); (case gb => walk_at "fp"); (case gc => exact SH.szf rfl); intro _ _ _)
  | ((with_reducible refine' SH.g_app' ?ga ?gb ?gz); (case ga => walk_at "hp"); (case gb => walk_at "lt"); intro _ _ _)
  | ((with_reducible refine' SH.g_popF ?ga ?gz); (case ga => walk_at "hp"); intro _ _ _)
  | ((with_reducible refine' SH.g_bml ?ga ?gz); (case ga => walk_at "sq"))
  | ((with_reducible refine' SH.g_isiSelf ?ga ?gb ?gc ?gz); (case ga => walk_at "hp"); (case gb => walk_at "cl"); (case gc => walk_at "cl")))
local macro_rules | `(tactic| walk_at "g2") => `(tactic|
  ((with_reducible refine' SH.g_ixL ?ga ?gb ?gz); (case ga => walk_at "sq"); (case gb => first | rfl | (apply SH.atI_refs; assumption) | exact SH.atI_cons0 | (apply SH.atI_bs; assumption))))
namespace SH
open PySem PySem.Spec PyProof.Rows L2
/-! ### courses of any values, played -/
theorem Sea.do_pars (s : Sea) (st : Stp) : (s.do' st).shares = s.shares ∧ (s.do' st).most = s.most ∧ (s.do' st).late = s.late ∧ (s.do' st).reserve = s.reserve := by cases st <;> exact ⟨rfl, rfl, rfl, rfl⟩
/-- what comes of the values' steps; none: a value has no form, or is not possible -/
def Sea.plays (s : Sea) : List (Option Stp) → Option Sea
  | [] => some s
  | none :: _ => none
  | some st :: l => if s.can st = true then (s.do' st).plays l else none
/-- where it stops -/
def Sea.stopAt (s : Sea) : List (Option Stp) → Nat
  | [] => 0
  | none :: _ => 0
  | some st :: l => if s.can st = true then (s.do' st).stopAt l + 1 else 0
def Item (K : PySem.W.Frag) (n : Nat) (H : Hp) (v : V) : Option Stp → Prop
  | none => OddStep K H v n
  | some st => StepAt K H v st ∧ st.ok n
theorem OddStep.off {K : PySem.W.Frag} {S : List Addr} {H H' : Hp} {v : V} {n : Int} (h : OddStep K H v n) (o : Off S H H') (hn : ∀ a o, v = .ref a → H a = some o → a ∉ S) : OddStep K H' v n := by
  rcases h with ⟨kd, hk, nk⟩ | ⟨p, xs, rfl, hs, hf, h4, hb⟩ | ⟨p, a, xs, ys, d, ds, rfl, hs, ha, hd, hsh⟩
  · refine .inl ⟨kd, ?_, nk⟩
    cases hk with
    | non => exact .non
    | bl b => exact .bl b
    | int i => exact .int i
    | str z => exact .str z
    | @lst a xs h =>
      refine .lst (xs := xs) ?_
      rcases h with (h | ⟨o', h⟩) | h
      · exact .inl (.inl (o.at (hn a _ rfl h) h))
      · exact .inl (.inr ⟨o', o.frzs _ _ _ h⟩)
      · exact .inr h
    | tup h => exact absurd rfl nk
    | @dct a kvs h => exact .dct (o.at (hn a _ rfl h) h)
  · exact .inr (.inl ⟨p, xs, rfl, o.seqT hs, hf, h4, hb⟩)
  · exact .inr (.inr ⟨p, a, xs, ys, d, ds, rfl, o.seqT hs, o.seqT ha, fun S' H'' o' => hd (S ++ S') H'' ((o.mono fun a ha => List.mem_append_left _ ha).trans (o'.mono fun a ha => List.mem_append_right _ ha)), hsh⟩)
theorem Item.off {K : PySem.W.Frag} {S : List Addr} {H H' : Hp} {v : V} {n : Nat} {it : Option Stp} (h : Item K n H v it) (o : Off S H H') (hn : ∀ a o, v = .ref a → H a = some o → a ∉ S) : Item K n H' v it := by
  cases it with
  | none => exact OddStep.off h o hn
  | some st => exact ⟨h.1.off o, h.2⟩
def SamePars (s z : Sea) : Prop := z.shares = s.shares ∧ z.most = s.most ∧ z.late = s.late ∧ z.reserve = s.reserve
theorem SamePars.do {s z : Sea} (h : SamePars s z) (st : Stp) : SamePars s (z.do' st) := by
  obtain ⟨a, b, c, d⟩ := h
  obtain ⟨a', b', c', d'⟩ := z.do_pars st
  exact ⟨a'.trans a, b'.trans b, c'.trans c, d'.trans d⟩
def spGoX (K : PySem.W.Frag) : Sp := fun vs H Q E => ∃ (k : Pk) (t : Addr) (xs : List V) (its : List (Option Stp)) (s : Sea) (c : Nat), vs = [.ref k.q, .ref t] ∧ PkAt K H k s ∧ SqT K H t xs ∧ (∀ H', Off k.foot H H' → Paired (Item K k.bs.length H') xs its) ∧
  s.Good c ∧ c + its.length ≤ 10000 ∧ (∀ z, s.plays its = some z → ∀ H', PkAt K H' k z → Off k.foot H H' → Q .non H') ∧ (s.plays its = none → ∀ z H', SamePars s z → PkAt K H' k z → Off k.foot H H' → RaiseW (He.ga K "Stopped") "place" (.int ((s.stopAt its : Nat) : Int)) H' E)
local macro_rules | `(tactic| walk_at "g2") => `(tactic| with_reducible first | refine SH.g_enT ?_ | refine SH.g_enL ?_ | refine SH.g_tryX ?_ | refine SH.g_tryOC ?_ | refine SH.g_methS ?_ | refine SH.g_callS ?_ | refine SH.g_raise5 ?_)
section
variable {P : Program} {w : World} {K : PySem.W.Frag} {mg : Str → Option Value} {base : Heap}
theorem ok_go_on (T : Txt P w K mg) : DefC P w K mg base "go_on" 5 ["season", "steps"] (spGoX K) := by
  refine T.d_go_on.okC sc_go_on (fun _ _ _ _ _ _ us hl => match us, hl with | [_, _], _ => rfl) (fun vs H Q E h => ?_) (fun f cdv A outer s H vs Q E hr h => ?_)
  · obtain ⟨k, t, xs, its, s, c, rfl, _⟩ := h
    rfl
  · obtain ⟨k, t, xs, its, s, c, rfl, hx, ht, hst, hg, hc, q1, q2⟩ := h
    have B := T.blt
    have hu := hu_of hr
    have G_Season_do := ok_Season_do (base := base) T
    have hdp0 := room_dp hr
    have X_Stopped := T.x_Stopped
    have cl_Plan := T.cl_Plan
    have is_Plan := T.is_Plan
    have cl_Boat := T.cl_Boat
    have is_Boat := T.is_Boat
    have cl_Season := T.cl_Season
    have is_Season := T.is_Season
    refine ⟨_, (pss_one (ps_for (passes_of rfl) rfl (pi_enumT (K := K) rfl (by rfl) B.b_enumerate (pa_cons (pv 1) pa_nil)) (pg_tupK (K := K) (n := 2) rfl rfl (pgs_cons (pg_name (i := 2) sc_go_on.nd rfl (by first | exact Or.inl rfl | exact Or.inr rfl)) (pgs_cons (pg_name (i := 3) sc_go_on.nd rfl (by first | exact Or.inl rfl | exact Or.inr rfl)) pgs_nil)))
    (pss_one (ps_tryX (K := K) rfl rfl rfl (fun hd => L2H.passesAt_of rfl hd) (L2.takes_of rfl rfl rfl rfl) (fun W pn xe tk _ => (pss_one (ps_expr (pe_mthS G_Season_do (hr.mono (by decide)) tk (pv 0) (pa_cons (pv 3) pa_nil))))) (.cons ⟨rfl, by decide, .inl T.g_BadArgument⟩ (fun a oe cls d pn _ _ tkS hot => (pss_one (ps_raiseHX hot X_Stopped hdp0 tkS (pa_cons (pv 2) pa_nil)))) (.cons ⟨rfl, by decide, .inl T.g_NotPossible⟩ (fun a oe cls d pn _ _ tkS hot => (pss_one (ps_raiseHX hot X_Stopped hdp0 tkS (pa_cons (pv 2) pa_nil)))) .nil)))))), ?_⟩
    have hl : xs.length = its.length := Paired.length (hst H (.refl _ _))
    walk_at "go"
    refine enT_mk (fun i σ H1 => ∃ a b z, σ = [some (.ref k.q), some (.ref t), a, b] ∧ PkAt K H1 k z ∧ Off k.foot H H1 ∧ s.plays its = z.plays (its.drop i) ∧ s.stopAt its = i + z.stopAt (its.drop i) ∧ z.Good (c + i) ∧ SamePars s z) ht ⟨none, none, s, rfl, hx, .refl _ _, rfl, by simp, hg, rfl, rfl, rfl, rfl⟩
      (fun i σ H1 hi hP => ?_) (fun i x T0 σ H1 he hP hT => ?_) (fun σ H1 hP => ?_)
    · obtain ⟨_, _, _, _, _, oo, _⟩ := hP
      exact oo.seqT ht
    · obtain ⟨a, b, z, rfl, pk, oo, ep, es, gz, sp⟩ := hP
      have il : i < its.length := by
        have := (List.getElem?_eq_some_iff.mp he).1
        omega
      have oT : Off [] H1 (upd H1 T0 (.tup [.int ((i : Nat) : Int), x])) := .new hT
      have pk1 := pk.off oT (by simp)
      have o2 : Off k.foot H (upd H1 T0 (.tup [.int ((i : Nat) : Int), x])) := oo.trans (oT.mono (by simp))
      obtain ⟨x', e1, it1⟩ := paired_get (i := i) (x := its[i]'il) (hst _ o2) (List.getElem?_eq_getElem il)
      rw [he] at e1
      cases e1
      rw [List.drop_eq_getElem_cons il] at ep es
      generalize its[i]'il = it at *
      walk_at "go"
      obtain ⟨dq, hq⟩ := pk1.hq
      generalize upd H1 T0 (.tup [.int ((i : Nat) : Int), x]) = H2 at *
      walk_at "go"
      cases it with
      | none =>
        refine .inr ⟨k, z, x, rfl, pk1, it1, fun H3 o3 d hd => ?_⟩
        refine g_many1 T.xr_BadArgument_BadArgument.ex fun ea hea => ?_
        walk_at "go"
        have es' : s.stopAt its = i := es
        rw [es'] at q2
        exact fun d2 hd2 => q2 ep z _ sp ((pk1.off o3 (by simp)).off (S := []) (.new hd) (by simp)) ((o2.trans (o3.mono (by simp))).new2 hd) d2 hd2
      | some st =>
        refine .inl ⟨k, z, x, st, c + i, rfl, pk1, it1.1, it1.2, gz, by omega, fun hcan H3 pk3 o3 => ?_, fun hcan H3 o3 d hd => ?_⟩
        · walk_at "go"
          have ep' : s.plays its = (z.do' st).plays (its.drop (i + 1)) := by
            rw [ep]
            show (if z.can st = true then _ else _) = _
            rw [if_pos hcan]
          have es' : s.stopAt its = i + 1 + (z.do' st).stopAt (its.drop (i + 1)) := by
            rw [es]
            show i + (if z.can st = true then _ else _) = _
            rw [if_pos hcan]
            omega
          exact ⟨_, _, _, rfl, pk3, o2.trans o3, ep', es', Sea.do_good gz st, sp.do st⟩
        · have nc : ¬ z.can st = true := by rw [hcan]; exact Bool.false_ne_true
          have ep' : s.plays its = none := by
            rw [ep]
            show (if z.can st = true then _ else _) = _
            rw [if_neg nc]
          have es' : s.stopAt its = i := by
            rw [es]
            show i + (if z.can st = true then _ else _) = _
            rw [if_neg nc]
            rfl
          refine g_many2 T.xr_NotPossible_BadArgument.ex (g_many1 T.xr_NotPossible_NotPossible.ex fun ea hea => ?_)
          walk_at "go"
          rw [es'] at q2
          exact fun d2 hd2 => q2 ep' z _ sp ((pk1.off o3 (by simp)).off (S := []) (.new hd) (by simp)) ((o2.trans (o3.mono (by simp))).new2 hd) d2 hd2
    · obtain ⟨a, b, z, rfl, pk, oo, ep, es, gz, sp⟩ := hP
      walk_at "go"
      rw [hl, List.drop_length] at ep
      exact q1 z ep H1 pk oo
def spAreX (K : PySem.W.Frag) : Sp := fun vs H Q _ => (∃ p xs, vs = [.ref p] ∧ SqT K H p xs ∧ Q (.bl (decide ((xs.length : Int) ≤ 5000))) H) ∨ (∃ v kd, vs = [v] ∧ KdV K H v kd ∧ kd ≠ .tup ∧ Q (.bl false) H)
theorem ok_are_steps (T : Txt P w K mg) : DefOk P w K mg base "are_steps" 1 ["value"] (spAreX K) := by
  refine T.d_are_steps.ok sc_are_steps (fun _ _ _ _ _ _ us hl => match us, hl with | [_], _ => rfl) (fun vs H Q E h => ?_) (fun f cdv A outer s H vs Q E hr h => ?_)
  · rcases h with ⟨p, xs, rfl, _⟩ | ⟨v, kd, rfl, _⟩ <;> rfl
  · have B := T.blt
    have hu := hu_of hr
    have c_MOST_STEPS := T.c_MOST_STEPS
    refine ⟨_, (pss_one (ps_ret (pe_and (pe_callB (call_isiK' (K := K) rfl) (by rfl) B.b_isinstance (by decide +kernel) (pa_cons (pv 0) (pa_cons (pe_bltn (v := .ty "tuple") rfl B.b_tuple (by decide +kernel) rfl) pa_nil))) (pe_one (pe_cmpR op_le (pe_callB (c_lenK (K := K) rfl) (by rfl) B.b_len PySem.boot_len (pa_cons (pv 0) pa_nil)) (pe_cint c_MOST_STEPS) (nomark _)))))), ?_⟩
    rcases h with ⟨p, xs, rfl, hp, q⟩ | ⟨v, kd, rfl, hk, nk, q⟩
    · walk_at "go"
      exact q
    · walk_at "go"
      refine br_b (fun c => absurd (of_decide_eq_true (by cases kd <;> simp_all)) nk) (fun c => ?_)
      walk_at "go"
      exact q
theorem PkAt.planX {K : PySem.W.Frag} {H : Hp} {k : Pk} {ss : List Int} {most late reserve : Int} {z : Sea} (h : PkAt K H k z) (ok : PlanOk ss most late reserve) (sp : SamePars (Sea.new ss most late reserve) z) : PlanH K H k.p k.sh ss most late reserve := by
  obtain ⟨a, b, c, d⟩ := sp
  obtain ⟨dx, e⟩ := h.hp
  have e2 := h.hs
  rw [a] at e2
  rw [b, c, d] at e
  exact ⟨⟨dx, e⟩, e2, ok⟩
theorem Sea.plays_pars' : ∀ {its : List (Option Stp)} {s a z : Sea}, SamePars s a → a.plays its = some z → SamePars s z
  | [], s, a, z, sa, h => by cases h; exact sa
  | none :: _, s, a, z, sa, h => by cases h
  | some st :: l, s, a, z, sa, h => by
    have h' : (if a.can st = true then (a.do' st).plays l else none) = some z := h
    by_cases c : a.can st = true
    · rw [if_pos c] at h'
      exact Sea.plays_pars' (sa.do st) h'
    · rw [if_neg c] at h'
      cases h'
theorem Sea.plays_pars {its : List (Option Stp)} {s z : Sea} (h : s.plays its = some z) : SamePars s z := Sea.plays_pars' ⟨rfl, rfl, rfl, rfl⟩ h
/-- an item of a course; one of no form is no place of B -/
def ItemB (K : PySem.W.Frag) (B : List Addr) (n : Nat) (H : Hp) (x : V) (it : Option Stp) : Prop := Item K n H x it ∧ (it = none → ∀ q ∈ B, x ≠ .ref q)
/-- the items that a plan's course is made of, for play -/
structure Crse (K : PySem.W.Frag) (H : Hp) (B : List Addr) (n : Nat) (t : Addr) (xs : List V) (its : List (Option Stp)) : Prop where
  at_ : SqT K H t xs
  its_ : Paired (ItemB K B n H) xs its
theorem ItemB.off {K : PySem.W.Frag} {S B : List Addr} {H H' : Hp} {x : V} {n : Nat} {it : Option Stp} (h : ItemB K B n H x it) (o : Off S H H') (hS : ∀ a ∈ S, a ∈ B) : ItemB K B n H' x it := by
  refine ⟨?_, h.2⟩
  cases it with
  | none => exact OddStep.off h.1 o fun a u ex _ ha => h.2 rfl a (hS a ha) ex
  | some st => exact ⟨h.1.1.off o, h.1.2⟩
theorem Crse.off {K : PySem.W.Frag} {S B : List Addr} {H H' : Hp} {t : Addr} {n : Nat} {xs : List V} {its : List (Option Stp)} (h : Crse K H B n t xs its) (o : Off S H H') (hS : ∀ a ∈ S, a ∈ B) : Crse K H' B n t xs its :=
  ⟨o.seqT h.at_, Paired.mapP h.its_ fun _ _ z => z.off o hS⟩
theorem Crse.items {K : PySem.W.Frag} {B : List Addr} {H : Hp} {t : Addr} {n : Nat} {xs : List V} {its : List (Option Stp)} (h : Crse K H B n t xs its) : Paired (Item K n H) xs its := Paired.mapP h.its_ fun _ _ z => z.1
def spPlayX (K : PySem.W.Frag) : Sp := fun vs H Q E => ∃ (p sh : Addr) (ss : List Int) (most late reserve : Int) (t : Addr) (xs : List V) (its : List (Option Stp)) (B : List Addr), vs = [.ref p, .ref t] ∧ PlanH K H p sh ss most late reserve ∧ Crse K H B ss.length t xs its ∧ p ∈ B ∧ xs.length ≤ 5000 ∧
  (∀ z, (Sea.new ss most late reserve).plays its = some z → ∀ H' k, k.p = p → PkAt K H' k z → PlanH K H' p k.sh ss most late reserve → Off [p] H H' → Q (.ref k.q) H') ∧
  ((Sea.new ss most late reserve).plays its = none → ∀ H' sh', PlanH K H' p sh' ss most late reserve → Off [p] H H' → RaiseW (He.ga K "Stopped") "place" (.int (((Sea.new ss most late reserve).stopAt its : Nat) : Int)) H' E)
theorem ok_play (T : Txt P w K mg) : DefC P w K mg base "play" 6 ["plan", "steps"] (spPlayX K) := by
  refine T.d_play.okC sc_play (fun _ _ _ _ _ _ us hl => match us, hl with | [_, _], _ => rfl) (fun vs H Q E h => ?_) (fun f cdv A outer s H vs Q E hr h => ?_)
  · obtain ⟨p, sh, ss, most, late, reserve, t, xs, its, B, rfl, _⟩ := h
    rfl
  · obtain ⟨p, sh, ss, most, late, reserve, t, xs, its, B, rfl, hp, hc, hpB, hlen, q1, q2⟩ := h
    have B := T.blt
    have hu := hu_of hr
    have G_demand := ok_demand (base := base) T
    have M_Season := ok_Season_init (base := base) T
    have G_go_on := ok_go_on (base := base) T
    have G_are_steps := ok_are_steps (base := base) T
    have cl_Season := T.cl_Season
    have is_Season := T.is_Season
    have cl_Plan := T.cl_Plan
    have is_Plan := T.is_Plan
    refine ⟨_, (pss_cons (ps_expr (pe_df G_demand (hr.mono (by decide)) (L2N.passes_call (takes_down (L2.takes_of rfl rfl rfl rfl)) fun _ _ _ _ z => z) (pa_cons (pe_callB (call_isiK' (K := K) rfl) (by rfl) B.b_isinstance (by decide +kernel) (pa_cons (pv 0) (pa_cons (pe_glob (v := .ref (He.ga K "Plan")) rfl T.g_Plan rfl) pa_nil))) (pa_cons pe_str pa_nil))))
  (pss_cons (ps_expr (pe_df G_demand (hr.mono (by decide)) (L2N.passes_call (takes_down (L2.takes_of rfl rfl rfl rfl)) fun _ _ _ _ z => z) (pa_cons (pe_df G_are_steps (hr.mono (by decide)) (L2N.passes_call (takes_down (L2.takes_of rfl rfl rfl rfl)) fun _ _ _ _ z => z) (pa_cons (pv 1) pa_nil)) (pa_cons pe_str pa_nil))))
  (pss_cons (ps_set (i := 2) sc_play.nd rfl (by first | exact Or.inl rfl | exact Or.inr rfl) (pe_mk M_Season (hr.mono (by decide)) (L2N.passes_call (takes_down (L2.takes_of rfl rfl rfl rfl)) fun _ _ _ _ z => z) (pa_cons (pv 0) pa_nil)))
  (pss_cons (ps_expr (pe_dfC G_go_on (hr.mono (by decide)) (L2.passes_call (L2.takes_of rfl rfl rfl rfl) fun _ _ _ _ z => z) (pa_cons (pv 2) (pa_cons (pv 1) pa_nil))))
  (pss_one (ps_ret (pv 2))))))), ?_⟩
    have hl : xs.length = its.length := Paired.length hc.its_
    obtain ⟨dp, h1⟩ := hp.at_
    walk_at "go"
    refine ⟨_, _, rfl, fun _ => ?_, fun z => by cases z⟩
    walk_at "go"
    refine .inl ⟨t, xs, rfl, hc.at_, ?_⟩
    walk_at "go"
    rw [decide_eq_true (show (xs.length : Int) ≤ 5000 by omega)]
    refine ⟨_, _, rfl, fun _ => ?_, fun z => by cases z⟩
    walk_at "go"
    intro x dx hx hdx ndx
    have oM : Off [] H (upd (upd H dx (.own x)) x (.ins (He.ga K "Season") dx [])) := (Off.new hdx).trans (Off.new (by rw [upd_ne ndx.symm]; exact hx))
    refine ⟨x, dx, p, dp, sh, ss, most, late, reserve, rfl, hp.ok, upd_same, oM.at nin_nil h1, hp.sh_.off oM, fun H3 k kx ky pk o3 hfoot => ⟨rfl, ?_⟩⟩
    subst kx ky
    have oN : Off [] H H3 := oM.muts o3 (by intro u hu; rw [List.mem_singleton.mp hu]; exact .inr hx)
    have hkb : k.bs.length = ss.length := by
      rw [Paired.length pk.boats]
      simp [Sea.new]
    have hc3 := hc.off oN (fun _ z => by cases z)
    have fr : ∀ H', Off k.foot H3 H' → Off [k.p] H H' := fun H' o => (oN.mono (by simp)).muts o fun u hu => by
      rcases hfoot u hu with rfl | rfl | z
      · exact .inr hx
      · exact .inl (by simp)
      · exact .inr (oM.back z)
    walk_at "go"
    refine ⟨k, t, xs, its, _, 0, rfl, pk, hc3.at_, fun H' o => ?_, Sea.new_good hp.ok, by omega, fun z hz H4 pk4 o4 => ?_, fun hn z H4 sp4 pk4 o4 d hd => q2 hn H4 k.sh (pk4.planX hp.ok sp4) (fr H4 o4) d hd⟩
    · rw [hkb]
      exact (hc.off (fr H' o) fun y hy => by rw [List.mem_singleton.mp hy]; exact hpB).items
    · walk_at "go"
      exact q1 z hz H4 k rfl pk4 (pk4.planX hp.ok (Sea.plays_pars hz)) (fr H4 o4)
end
end SH
end

section
/-! #### the walk's words -/
local macro_rules | `(tactic| walk_at "ne0") => `(tactic| first
  | assumption
  | (refine Ne.symm ?_; assumption))
local macro_rules | `(tactic| walk_at "ne") => `(tactic| first
  | assumption
  | (refine Ne.symm ?_; assumption)
  | (refine' L2.ne_of_none ?gx (by assumption); (case gx => walk_at "hp"))
  | (refine' Ne.symm (L2.ne_of_none ?gx (by assumption)); (case gx => walk_at "hp")))
local macro_rules | `(tactic| walk_at "hp") => `(tactic| first
  | assumption
  | exact L2.upd_same
  | (refine' SH.upd_new ?gh (by assumption); (case gh => walk_at "hp"))
  | (refine' (L2.upd_ne ?gn).trans ?gh; (case gn => walk_at "ne0"); (case gh => walk_at "hp"))
  | (refine' SH.Off.at (by assumption) ?gn ?gh; (case gn => walk_at "nin"); (case gh => walk_at "hp")))
local macro_rules | `(tactic| walk_at "nin") => `(tactic| first
  | exact SH.nin_nil
  | (refine SH.nin_cons ?_ ?_; (· walk_at "ne0"); (· walk_at "nin")))
local macro_rules | `(tactic| walk_at "sq") => `(tactic| first
  | assumption
  | (apply L2.SqL.of; (· walk_at "hp"))
  | (apply L2.SqT.of; (· walk_at "hp"))
  | (refine' SH.seqT_new ?gx (by assumption); (case gx => walk_at "sq"))
  | (refine' SH.seqL_new ?gx (by assumption); (case gx => walk_at "sq"))
  | (refine' SH.Off.seqT (by assumption) ?gx; (case gx => walk_at "sq"))
  | (refine' SH.Off.seqL (by assumption) ?gy ?gx; (case gx => walk_at "sq"); (case gy => walk_at "nin")))
local macro_rules | `(tactic| walk_at "kd") => `(tactic| first
  | assumption | exact SH.KdV.int _ | exact SH.KdV.bl _ | exact SH.KdV.str _ | exact SH.KdV.non
  | (apply SH.KdV.tup; (· walk_at "sq")) | (apply SH.KdV.lst; (· walk_at "sq")))
/-- a way that cannot be -/
local macro_rules | `(tactic| walk_at "no") => `(tactic| (exfalso; first | assumption | omega | contradiction | (simp_all; done)))
/-- one step -/
local macro_rules | `(tactic| walk_at "g1") => `(tactic| with_reducible first
  | refine SH.g_var (by with_unfolding_all rfl) ?_ | refine SH.g_c ?_ | refine SH.g_op ?_ | refine SH.g_un ?_ | refine SH.g_I0 ?_ | refine SH.g_U ?_
  | refine SH.g_eqI ?_ | refine SH.g_neI ?_ | refine SH.g_eqS ?_ | refine SH.g_neS ?_
  | refine SH.g_test ?_ | refine SH.g_B ?_ | refine SH.g_isB ?_ | refine SH.g_and ?_ | refine SH.g_or ?_ | refine SH.g_not ?_ | refine SH.g_andV ?_ | refine SH.g_orV ?_ | refine SH.g_notV ?_ | refine SH.g_ifE ?_ | refine SH.g_chain ?_
  | refine SH.g_nil ?_ | refine SH.g_cons ?_ | refine SH.g_tup ?_ | refine SH.g_lst ?_ | refine SH.g_call ?_ | refine SH.g_fld ?_ | refine SH.g_meth ?_ | refine SH.g_make ?_ | refine SH.g_cb ?_ | refine SH.g_bm ?_
  | refine SH.g_seq ?_ | refine SH.g_asg ?_ | refine SH.g_name ?_ | refine SH.g_drop ?_ | refine SH.g_ret ?_ | refine SH.g_retN ?_ | refine SH.g_next ?_ | refine SH.g_brk ?_ | refine SH.g_cnt ?_ | refine SH.g_ifs ?_ | refine SH.g_par ?_ | refine SH.g_par2 ?_ | refine SH.g_fldS ?_ | refine SH.g_raise ?_ | refine SH.g_rs ?_
  | refine SH.g_sub ?_ | refine SH.g_yes ?_ | refine SH.g_sl ?_ | refine SH.g_noPart ?_ | refine SH.g_part ?_ | refine SH.g_intO ?_ | refine SH.g_dget ?_ | refine SH.g_dput ?_ | refine SH.g_forR ?_ | refine SH.g_forL ?_ | refine SH.g_forT ?_ | refine SH.g_lcR ?_ | refine SH.g_lcL ?_ | refine SH.g_lcT ?_ | refine SH.g_gcons ?_ | refine SH.g_gnil ?_
  | refine SH.br_t ?_ | refine SH.br_f ?_
  | refine SH.g_int ?_ | refine SH.g_abs ?_ | refine SH.g_max2 ?_ | refine SH.g_min2 ?_)
local macro_rules | `(tactic| walk_at "g2") => `(tactic| first
  | walk_at "g1"
  | ((with_reducible refine' SH.g_isiInt ?ga ?gz); (case ga => walk_at "kd"))
  | ((with_reducible refine' SH.g_isiBool ?ga ?gz); (case ga => walk_at "kd"))
  | ((with_reducible refine' SH.g_isiStr ?ga ?gz); (case ga => walk_at "kd"))
  | ((with_reducible refine' SH.g_isiTup ?ga ?gz); (case ga => walk_at "kd"))
  | ((with_reducible refine' SH.g_ixT ?ga ?gb ?gz); (case ga => walk_at "sq"); (case gb => rfl))
  | ((with_reducible refine' SH.g_ixL ?ga ?gb ?gz); (case ga => walk_at "sq"); (case gb => first | rfl | (apply SH.atI_refs; assumption)))
  | ((with_reducible refine SH.br_F ?_ ?_); (· decide +kernel)) | ((with_reducible refine SH.br_T ?_ ?_); (· decide +kernel)) | ((with_reducible refine SH.br_NF ?_ ?_); (· decide +kernel)) | ((with_reducible refine SH.br_NT ?_ ?_); (· decide +kernel))
  | ((with_reducible refine' SH.g_gtup ?ga ?gb ?gz); (case ga => walk_at "sq"); (case gb => rfl))
  | ((with_reducible refine' SH.g_lenT ?ga ?gz); (case ga => walk_at "sq"))
  | ((with_reducible refine' SH.g_lenL ?ga ?gz); (case ga => walk_at "sq"))
  | ((with_reducible refine SH.g_mkT (SH.sz rfl) ?_); intro _ _)
  | ((with_reducible refine SH.g_mkL (SH.sz rfl) ?_); intro _ _)
  | ((with_reducible refine SH.g_dnew ?_); intro _ _)
  | ((with_reducible refine' SH.g_tupL ?ga ?gz); (case ga => walk_at "sq"); intro _ _)
  | ((with_reducible refine' SH.g_lstL ?ga ?gz); (case ga => walk_at "sq"); intro _ _)
  | ((with_reducible refine' SH.g_lstT ?ga ?gz); (case ga => walk_at "sq"); intro _ _)
  | ((with_reducible refine' SH.g_dgR ?ga ?gb ?gz); (case ga => walk_at "hp"); (case gb => walk_at "dv"))
  | ((with_reducible refine' SH.g_fldR ?ga ?gb ?gc ?gd ?gz); (case ga => walk_at "hp"); (case gb => walk_at "cl"); (case gc => walk_at "na"); (case gd => walk_at "fv"))
  | ((with_reducible refine' SH.g_insR ?ga ?gb ?gz); (case ga => walk_at "hp"); (case gb => walk_at "fn"))
  | ((with_reducible refine' SH.g_setL ?ga ?gb ?gz); (case ga => walk_at "hp"); (case gb => rfl))
  | ((with_reducible refine SH.g_I ?_ ?_); (· walk_at "ci"))
  | ((with_reducible refine' SH.g_slL ?ga ?gz); (case ga => walk_at "sq"); intro _ _)
  | ((with_reducible refine' SH.g_cat ?ga ?gb ?gc ?gz); (case ga => walk_at "hp"); (case gb => walk_at "hp"); (case gc => walk_at "ls"); intro _ _))
/-- the side conditions of numbers: a divisor, a factor -/
local macro_rules | `(tactic| walk_at "ci") => `(tactic| first
  | (show _ ≠ _; omega) | (show _ < _; omega) | (constructor <;> omega) | (refine Or.inr ⟨?_, ?_⟩ <;> (show _ < _; omega)) | (refine Or.inl ⟨?_, ?_⟩ <;> (show _ < _; omega)) | (refine ⟨?_, ?_, ?_⟩ <;> decide))
local macro_rules | `(tactic| walk_at "ls") => `(tactic| first | (show _ ≤ _; exact Nat.le_trans (by assumption) (by decide)) | (show _ ≤ _; exact Nat.le_trans (by simp; omega) (by decide : 1000 ≤ sizeLine)))
local macro_rules | `(tactic| walk_at "dv") => `(tactic| rfl)
local macro_rules | `(tactic| walk_at "fv") => `(tactic| rfl)
local macro_rules | `(tactic| walk_at "fn") => `(tactic| rfl)
local macro_rules | `(tactic| walk_at "cl") => `(tactic| assumption)
local macro_rules | `(tactic| walk_at "na") => `(tactic| assumption)
local macro_rules | `(tactic| walk_at "go") => `(tactic| repeat walk_at "g2")
/-- a way is split -/
local macro_rules | `(tactic| walk_at "br") => `(tactic| with_reducible first
  | refine SH.br_d (fun _ => ?_) (fun _ => ?_) | refine SH.br_nd (fun _ => ?_) (fun _ => ?_) | refine SH.br_b (fun _ => ?_) (fun _ => ?_))
/-- all ways -/
local macro_rules | `(tactic| walk_at "all") => `(tactic| repeat' first | walk_at "g2" | (walk_at "br" <;> try (walk_at "no")))
/-- a truth value is the other -/
local macro_rules | `(tactic| walk_at "bq") => `(tactic| first | rfl | (simp_all; done) | (simp_all; omega) | (simp only [decide_eq_true_eq, decide_eq_false_iff_not, Bool.and_eq_true, Bool.or_eq_true] at *; omega))
/-- what was tracked is as it was -/
local macro_rules | `(tactic| walk_at "of") => `(tactic| first
  | assumption
  | exact SH.Off.refl _ _
  | (refine' SH.Off.new2 ?gx (by assumption); (case gx => walk_at "of"))
  | (refine' SH.Off.mut ?gx (by assumption); (case gx => walk_at "of"))
  | (refine' SH.Off.trans' ?gx (by assumption) ?gy; (case gy => (intro _ h; (first | exact h | (simp at h; done) | (simp at h ⊢; simp [h]; done)))); (case gx => walk_at "of")))
namespace SH
open PySem PySem.Spec PyProof.Rows L2
/-! ### the course against a plan, plain -/
/-- every step is possible; what comes of them -/
def Sea.allOk (s : Sea) : List Stp → Prop
  | [] => True
  | st :: l => s.can st = true ∧ (s.do' st).allOk l
def Sea.run (s : Sea) (l : List Stp) : Sea := l.foldl Sea.do' s
theorem Sea.allOk_append {l m : List Stp} : ∀ {s : Sea}, s.allOk l → (s.run l).allOk m → s.allOk (l ++ m) := by
  induction l with
  | nil => exact fun _ h => h
  | cons st l ih => exact fun h1 h2 => ⟨h1.1, ih h1.2 h2⟩
theorem Sea.run_append (s : Sea) (l m : List Stp) : s.run (l ++ m) = (s.run l).run m := List.foldl_append ..
theorem Sea.run_good {l : List Stp} : ∀ {s : Sea} {c : Nat}, s.Good c → (s.run l).Good (c + l.length) := by
  induction l with
  | nil => exact fun h => h
  | cons st l ih =>
    intro s c h
    have z := ih (Sea.do_good h st)
    have e : c + (st :: l).length = c + 1 + l.length := by rw [List.length_cons]; omega
    rw [e]
    exact z
def lft (tot most : Int) : Nat → Int
  | 0 => tot
  | t + 1 => lft tot most t - min (lft tot most t) most
def lnd (tot most : Int) (t : Nat) : Int := min (lft tot most t) most
section
variable {tot most : Int} (h0 : 0 ≤ tot) (h1 : 0 ≤ most)
include h0 h1
theorem lft_nn : ∀ t, 0 ≤ lft tot most t
  | 0 => h0
  | t + 1 => by
    show 0 ≤ lft tot most t - min (lft tot most t) most
    omega
theorem lft_le : ∀ t, lft tot most t ≤ tot
  | 0 => Int.le_refl _
  | t + 1 => by
    show lft tot most t - min (lft tot most t) most ≤ tot
    have := lft_le t
    have := lft_nn h0 h1 t
    omega
theorem lft_sub : ∀ t : Nat, lft tot most t = 0 ∨ lft tot most t = tot - t * most
  | 0 => .inr (by show tot = tot - ((0 : Nat) : Int) * most; simp)
  | t + 1 => by
    show lft tot most t - min (lft tot most t) most = 0 ∨ lft tot most t - min (lft tot most t) most = _
    have n := lft_nn h0 h1 t
    by_cases c : lft tot most t ≤ most
    · left
      omega
    · rcases lft_sub t with e | e
      · omega
      · right
        have e2 : (((t + 1 : Nat)) : Int) * most = t * most + most := by rw [Int.natCast_succ, Int.add_mul, Int.one_mul]
        omega
end
/-- the landings of some ticks, from a on -/
def rws (tot most : Int) : Nat → Nat → List (Int × Int)
  | _, 0 => []
  | a, k + 1 => (if 0 < lnd tot most a then [((a : Int), lnd tot most a)] else []) ++ rws tot most (a + 1) k
theorem rws_snoc {tot most : Int} : ∀ (k a : Nat), rws tot most a (k + 1) = rws tot most a k ++ (if 0 < lnd tot most (a + k) then [(((a + k : Nat) : Int), lnd tot most (a + k))] else [])
  | 0, a => by simp [rws]
  | k + 1, a => by
    show _ ++ rws tot most (a + 1) (k + 1) = (_ ++ rws tot most (a + 1) k) ++ _
    rw [rws_snoc k (a + 1), List.append_assoc, show a + 1 + k = a + (k + 1) by omega]
theorem rws_mem {tot most : Int} : ∀ (k a : Nat) (r : Int × Int), r ∈ rws tot most a k → (a : Int) ≤ r.1
  | 0, a, r, h => by cases h
  | k + 1, a, r, h => by
    rcases List.mem_append.mp (show r ∈ _ ++ rws tot most (a + 1) k from h) with h | h
    · split at h
      · rw [List.mem_singleton.mp h]; exact Int.le_refl _
      · cases h
    · have := rws_mem k (a + 1) r h
      omega
/-- a season in the midst of the course -/
structure Cr (b n : Nat) (S most late reserve : Int) (s : Sea) (now : Nat) (ld rt : Int) (tz : Prop) (u : List (Int × Int)) (pr : Int) : Prop where
  now : s.now = now
  pm : s.most = most
  pl : s.late = late
  pv : s.reserve = reserve
  bm : s.bm = false
  bl : s.bl = false
  len : s.boats.length = n
  it : ∃ x, s.boats[b]? = some x ∧ x.heard = S ∧ x.landed = ld ∧ x.right = rt ∧ (tz → x.told = 0) ∧ x.untold = u ∧ x.present = pr
  oth : ∀ (j : Nat) (y : Bt), s.boats[j]? = some y → j ≠ b → y.untold = []
  unh : ∀ (j : Nat) (y : Bt), s.boats[j]? = some y → ∀ r ∈ y.unheard, r.1 = late
theorem modify_at {α : Type} {f : α → α} {l : List α} {i j : Nat} {y : α} (h : (l.modify i f)[j]? = some y) : ∃ z, l[j]? = some z ∧ y = if i = j then f z else z := by
  rw [List.getElem?_modify] at h
  rcases e : l[j]? with _ | z
  · rw [e] at h; simp at h
  · rw [e] at h
    refine ⟨z, rfl, ?_⟩
    simpa using h.symm
theorem modify_is {α : Type} {f : α → α} {l : List α} {i : Nat} {z : α} (h : l[i]? = some z) : (l.modify i f)[i]? = some (f z) := by
  rw [List.getElem?_modify, h]; simp
section
variable {b n : Nat} {S most late reserve : Int} {s : Sea} {now : Nat} {ld rt : Int} {tz : Prop} {u : List (Int × Int)} {pr : Int}
theorem Cr.look (h : Cr b n S most late reserve s now ld rt tz u pr) : Cr b n S most late reserve s.look now ld rt tz u pr := ⟨h.now, h.pm, h.pl, h.pv, h.bm, h.bl, h.len, h.it, h.oth, h.unh⟩
theorem Cr.land {k : Int} (h : Cr b n S most late reserve s now ld rt tz u 0) (a : ld + k ≤ S) (c : k ≤ most) : s.can (.land b k) = true ∧ Cr b n S most late reserve (s.do' (.land b k)) now (ld + k) rt tz (u ++ [((now : Int), k)]) k := by
  obtain ⟨x, x1, x2, x3, x4, x5, x6, x7⟩ := h.it
  refine ⟨?_, Cr.look (s := { s with boats := s.boats.modify b fun t => t.land s.now k, bm := s.bm || (s.boats[b]?).any fun t => decide (s.most < t.present + k) }) ?_⟩
  · show (s.boats[b]?).any _ = true
    rw [x1]
    show decide (x.landed + k ≤ x.heard) = true
    rw [x2, x3]
    exact decide_eq_true a
  · refine ⟨h.now, h.pm, h.pl, h.pv, ?_, h.bl, by simpa using h.len, ⟨_, modify_is x1, x2, ?_, x4, x5, ?_, ?_⟩, fun j y hy hj => ?_, fun j y hy r hr => ?_⟩
    · show (s.bm || (s.boats[b]?).any fun t => decide (s.most < t.present + k)) = false
      rw [h.bm, x1]
      show decide (s.most < x.present + k) = false
      rw [x7, h.pm]
      exact decide_eq_false (by omega)
    · show x.landed + k = _
      rw [x3]
    · show x.untold ++ [(s.now, k)] = _
      rw [x6, h.now]
    · show x.present + k = k
      rw [x7]; omega
    · obtain ⟨z, hz, rfl⟩ := modify_at hy
      rw [if_neg (Ne.symm hj)]
      exact h.oth j z hz hj
    · obtain ⟨z, hz, rfl⟩ := modify_at hy
      refine h.unh j z hz r ?_
      split at hr <;> exact hr
theorem Cr.trade {o : Nat} (h : Cr b n S most late reserve s now ld S True u pr) (hn : (now : Int) = late) (ho : o ≠ b) : s.can (.trade b o (S - reserve)) = true ∧ Cr b n S most late reserve (s.do' (.trade b o (S - reserve))) now ld reserve False u pr := by
  obtain ⟨x, x1, x2, x3, x4, x5, x6, x7⟩ := h.it
  refine ⟨?_, Cr.look (s := { s with boats := (s.boats.modify b fun t => t.change s.now (-(S - reserve))).modify o fun t => t.change s.now (S - reserve) }) ?_⟩
  · show (s.boats[b]?).any _ = true
    rw [x1]
    show decide (s.reserve ≤ x.right - x.told - (S - reserve)) = true
    rw [x4, x5 trivial, h.pv]
    exact decide_eq_true (by omega)
  · refine ⟨h.now, h.pm, h.pl, h.pv, h.bm, h.bl, by simpa using h.len, ⟨x.change s.now (-(S - reserve)), ?_, x2, x3, ?_, fun z => z.elim, x6, x7⟩, fun j y hy hj => ?_, fun j y hy r hr => ?_⟩
    · show ((s.boats.modify b _).modify o _)[b]? = _
      rw [List.getElem?_modify, modify_is x1]
      simp [ho]
    · show x.right + -(S - reserve) = reserve
      omega
    · obtain ⟨z, hz, rfl⟩ := modify_at hy
      obtain ⟨z', hz', rfl⟩ := modify_at hz
      rw [if_neg (Ne.symm hj)]
      have e := h.oth j z' hz' hj
      split <;> exact e
    · obtain ⟨z, hz, rfl⟩ := modify_at hy
      obtain ⟨z', hz', rfl⟩ := modify_at hz
      have e := h.unh j z' hz'
      have nw : s.now = late := h.now.trans hn
      have one : ∀ (w : Bt) (k : Int), (∀ r ∈ w.unheard, r.1 = late) → ∀ r ∈ (w.change s.now k).unheard, r.1 = late := fun w k hw r hr => by
        rcases List.mem_append.mp (show r ∈ w.unheard ++ [(s.now, k)] from hr) with hr | hr
        · exact hw r hr
        · rw [List.mem_singleton.mp hr]; exact nw
      have two : ∀ r ∈ (if b = j then z'.change s.now (-(S - reserve)) else z').unheard, r.1 = late := by
        split
        · exact one _ _ e
        · exact e
      revert hr
      split
      · exact fun hr => one _ _ two r hr
      · exact fun hr => two r hr
theorem Cr.tell {r : Int × Int} (h : Cr b n S most late reserve s now ld rt tz (r :: u) pr) : s.can (.tell b) = true ∧ Cr b n S most late reserve (s.do' (.tell b)) now ld rt False u pr := by
  obtain ⟨x, x1, x2, x3, x4, x5, x6, x7⟩ := h.it
  refine ⟨?_, Cr.look (s := { s with boats := s.boats.modify b Bt.tell }) ?_⟩
  · show (s.boats[b]?).any _ = true
    rw [x1]
    show (!x.untold.isEmpty) = true
    rw [x6]; rfl
  · refine ⟨h.now, h.pm, h.pl, h.pv, h.bm, h.bl, by simpa using h.len, ⟨_, modify_is x1, x2, x3, x4, fun z => z.elim, ?_, x7⟩, fun j y hy hj => ?_, fun j y hy r hr => ?_⟩
    · show x.untold.tail = _
      rw [x6]; rfl
    · obtain ⟨z, hz, rfl⟩ := modify_at hy
      rw [if_neg (Ne.symm hj)]
      exact h.oth j z hz hj
    · obtain ⟨z, hz, rfl⟩ := modify_at hy
      refine h.unh j z hz r ?_
      split at hr <;> exact hr
theorem Cr.tick (h : Cr b n S most late reserve s now ld rt tz u pr) (hn : now < 1000) (hu : ∀ r ∈ u, (now : Int) - late < r.1) (hv : (now : Int) - late < late) : s.can .tick = true ∧ Cr b n S most late reserve (s.do' .tick) (now + 1) ld rt tz u 0 := by
  obtain ⟨x, x1, x2, x3, x4, x5, x6, x7⟩ := h.it
  have at_ : ∀ (j : Nat) (y : Bt), (s.do' .tick).boats[j]? = some y → ∃ z, s.boats[j]? = some z ∧ y = { z with present := 0 } := fun j y hy => by
    have hy' : (s.boats.map fun t => { t with present := 0 })[j]? = some y := hy
    rw [List.getElem?_map] at hy'
    rcases e : s.boats[j]? with _ | z
    · rw [e] at hy'; cases hy'
    · rw [e] at hy'
      exact ⟨z, rfl, (Option.some.inj hy').symm⟩
  refine ⟨decide_eq_true (by rw [h.now]; omega), ⟨?_, h.pm, h.pl, h.pv, h.bm, ?_, by simpa [Sea.do'] using h.len, ⟨{ x with present := 0 }, ?_, x2, x3, x4, x5, x6, rfl⟩, fun j y hy hj => ?_, fun j y hy r hr => ?_⟩⟩
  · show s.now + 1 = _
    rw [h.now]; rfl
  · show (s.bl || s.boats.any fun t => t.isLate (s.now - s.late)) = false
    rw [h.bl, Bool.false_or, List.any_eq_false]
    intro y hy
    obtain ⟨j, hj⟩ := List.mem_iff_getElem?.mp hy
    have q : y.isLate (s.now - s.late) = false := by
      unfold Bt.isLate
      rw [List.any_eq_false]
      intro r hr
      have : s.now - s.late < r.1 := by
        rw [h.now, h.pl]
        rcases List.mem_append.mp hr with hr | hr
        · by_cases e : j = b
          · subst e
            cases x1.symm.trans hj
            rw [x6] at hr
            exact hu r hr
          · rw [h.oth j y hj e] at hr
            cases hr
        · rw [h.unh j y hj r hr]
          exact hv
      simp only [decide_eq_true_eq]
      omega
    rw [q]
    exact Bool.false_ne_true
  · show (s.boats.map _)[b]? = _
    rw [List.getElem?_map, x1]
    rfl
  · obtain ⟨z, hz, rfl⟩ := at_ j y hy
    exact h.oth j z hz hj
  · obtain ⟨z, hz, rfl⟩ := at_ j y hy
    exact h.unh j z hz r hr
end
def stepsAt (tot most S late reserve : Int) (b o t : Nat) : List Stp :=
  (if 0 < lnd tot most t then [.land b (lnd tot most t)] else []) ++ (if (t : Int) = late then [.trade b o (S - reserve)] else []) ++ (if late ≤ t ∧ 0 < lnd tot most (t - late.toNat) then [.tell b] else []) ++ (if (t : Int) < 2 * late then [.tick] else [])
theorem Cr.weak {b n : Nat} {S most late reserve : Int} {s : Sea} {now : Nat} {ld rt : Int} {tz tz' : Prop} {u : List (Int × Int)} {pr : Int} (h : Cr b n S most late reserve s now ld rt tz u pr) (w : tz' → tz) : Cr b n S most late reserve s now ld rt tz' u pr :=
  ⟨h.now, h.pm, h.pl, h.pv, h.bm, h.bl, h.len, by obtain ⟨x, x1, x2, x3, x4, x5, x6⟩ := h.it; exact ⟨x, x1, x2, x3, x4, fun z => x5 (w z), x6⟩, h.oth, h.unh⟩
section
variable {b o n L : Nat} {S tot most reserve : Int} (h0 : 0 ≤ tot) (h1 : 1 ≤ most) (hS : tot ≤ S) (hob : o ≠ b) (hL : L ≤ 6)
include h0 h1 hS hob hL
theorem cr_round {s : Sea} {t : Nat} (ht : t ≤ 2 * L) (h : Cr b n S most L reserve s t (tot - lft tot most t) (if t ≤ L then S else reserve) (t ≤ L) (rws tot most (t - L) (min t L)) 0) :
    s.allOk (stepsAt tot most S L reserve b o t) ∧ ∃ now pr, (t < 2 * L → now = t + 1 ∧ pr = 0) ∧
      Cr b n S most L reserve (s.run (stepsAt tot most S L reserve b o t)) now (tot - lft tot most (t + 1)) (if t + 1 ≤ L then S else reserve) (t + 1 ≤ L) (rws tot most (t + 1 - L) (min (t + 1) L)) pr := by
  have ln0 := lft_nn h0 (show 0 ≤ most by omega) t
  have ln1 := lft_nn h0 (show 0 ≤ most by omega) (t + 1)
  have le := lft_le h0 (show 0 ≤ most by omega) (t + 1)
  have e1 : lft tot most (t + 1) = lft tot most t - lnd tot most t := rfl
  have lm : lnd tot most t ≤ most := by unfold lnd; omega
  -- the landing
  obtain ⟨a1, pr1, c1⟩ : s.allOk (if 0 < lnd tot most t then [.land b (lnd tot most t)] else []) ∧ ∃ pr, Cr b n S most L reserve (s.run (if 0 < lnd tot most t then [.land b (lnd tot most t)] else [])) t (tot - lft tot most (t + 1)) (if t ≤ L then S else reserve) (t ≤ L) (rws tot most (t - L) (min t L + 1)) pr := by
    have sn := rws_snoc (tot := tot) (most := most) (min t L) (t - L)
    rw [show t - L + min t L = t by omega] at sn
    by_cases c : 0 < lnd tot most t
    · rw [if_pos c] at sn ⊢
      obtain ⟨z1, z2⟩ := h.land (k := lnd tot most t) (by omega) lm
      refine ⟨⟨z1, trivial⟩, lnd tot most t, ?_⟩
      rw [sn, e1, show tot - (lft tot most t - lnd tot most t) = tot - lft tot most t + lnd tot most t by omega]
      exact z2
    · rw [if_neg c] at sn ⊢
      refine ⟨trivial, 0, ?_⟩
      have z : lnd tot most t = 0 := by unfold lnd at c ⊢; omega
      rw [sn, List.append_nil, e1, z, Int.sub_zero]
      exact h
  -- the trade
  obtain ⟨a2, c2⟩ : (s.run (if 0 < lnd tot most t then [.land b (lnd tot most t)] else [])).allOk (if (t : Int) = L then [.trade b o (S - reserve)] else []) ∧
      Cr b n S most L reserve ((s.run (if 0 < lnd tot most t then [.land b (lnd tot most t)] else [])).run (if (t : Int) = L then [.trade b o (S - reserve)] else [])) t (tot - lft tot most (t + 1)) (if t + 1 ≤ L then S else reserve) (t + 1 ≤ L) (rws tot most (t - L) (min t L + 1)) pr1 := by
    generalize s.run _ = s1 at c1
    by_cases c : (t : Int) = L
    · rw [if_pos c]
      have c' : t ≤ L := by omega
      rw [if_pos c'] at c1
      obtain ⟨z1, z2⟩ := (c1.weak (tz' := True) fun _ => c').trade c hob
      refine ⟨⟨z1, trivial⟩, ?_⟩
      rw [if_neg (show ¬ t + 1 ≤ L by omega)]
      exact z2.weak fun z => absurd z (by omega)
    · rw [if_neg c]
      refine ⟨trivial, ?_⟩
      have e : (if t + 1 ≤ L then S else reserve) = if t ≤ L then S else reserve := by
        by_cases q : t + 1 ≤ L
        · rw [if_pos q, if_pos (by omega)]
        · rw [if_neg q, if_neg (by omega)]
      rw [e]
      exact c1.weak fun z => by omega
  -- the telling
  obtain ⟨a3, c3⟩ : ((s.run (if 0 < lnd tot most t then [.land b (lnd tot most t)] else [])).run (if (t : Int) = L then [.trade b o (S - reserve)] else [])).allOk (if (L : Int) ≤ t ∧ 0 < lnd tot most (t - (L : Int).toNat) then [.tell b] else []) ∧
      Cr b n S most L reserve (((s.run (if 0 < lnd tot most t then [.land b (lnd tot most t)] else [])).run (if (t : Int) = L then [.trade b o (S - reserve)] else [])).run (if (L : Int) ≤ t ∧ 0 < lnd tot most (t - (L : Int).toNat) then [.tell b] else [])) t (tot - lft tot most (t + 1)) (if t + 1 ≤ L then S else reserve) (t + 1 ≤ L) (rws tot most (t + 1 - L) (min (t + 1) L)) pr1 := by
    generalize (s.run _).run _ = s2 at c2
    rw [Int.toNat_natCast]
    by_cases q : L ≤ t
    · rw [show min t L + 1 = L + 1 by omega] at c2
      rw [show min (t + 1) L = L by omega, show t + 1 - L = t - L + 1 by omega]
      by_cases c : 0 < lnd tot most (t - L)
      · rw [if_pos ⟨by omega, c⟩]
        rw [show rws tot most (t - L) (L + 1) = (((t - L : Nat) : Int), lnd tot most (t - L)) :: rws tot most (t - L + 1) L by show (if _ then _ else _) ++ _ = _; rw [if_pos c]; rfl] at c2
        obtain ⟨z1, z2⟩ := c2.tell
        exact ⟨⟨z1, trivial⟩, z2.weak fun z => absurd z (by omega)⟩
      · rw [if_neg (fun z => c z.2)]
        rw [show rws tot most (t - L) (L + 1) = rws tot most (t - L + 1) L by show (if _ then _ else _) ++ _ = _; rw [if_neg c]; rfl] at c2
        exact ⟨trivial, c2⟩
    · rw [if_neg (fun z => by omega)]
      rw [show t - L = 0 by omega, show min t L + 1 = t + 1 by omega] at c2
      rw [show t + 1 - L = 0 by omega, show min (t + 1) L = t + 1 by omega]
      exact ⟨trivial, c2⟩
  have out : ∀ l4 : List Stp, s.run ((if 0 < lnd tot most t then [.land b (lnd tot most t)] else []) ++ (if (t : Int) = L then [.trade b o (S - reserve)] else []) ++ (if (L : Int) ≤ t ∧ 0 < lnd tot most (t - (L : Int).toNat) then [.tell b] else []) ++ l4) =
      (((s.run (if 0 < lnd tot most t then [.land b (lnd tot most t)] else [])).run (if (t : Int) = L then [.trade b o (S - reserve)] else [])).run (if (L : Int) ≤ t ∧ 0 < lnd tot most (t - (L : Int).toNat) then [.tell b] else [])).run l4 := fun l4 => by
    rw [Sea.run_append, Sea.run_append, Sea.run_append]
  have ok3 : ∀ l4 : List Stp, (((s.run (if 0 < lnd tot most t then [.land b (lnd tot most t)] else [])).run (if (t : Int) = L then [.trade b o (S - reserve)] else [])).run (if (L : Int) ≤ t ∧ 0 < lnd tot most (t - (L : Int).toNat) then [.tell b] else [])).allOk l4 →
      s.allOk ((if 0 < lnd tot most t then [.land b (lnd tot most t)] else []) ++ (if (t : Int) = L then [.trade b o (S - reserve)] else []) ++ (if (L : Int) ≤ t ∧ 0 < lnd tot most (t - (L : Int).toNat) then [.tell b] else []) ++ l4) := fun l4 h4 => by
    refine Sea.allOk_append (Sea.allOk_append (Sea.allOk_append a1 a2) ?_) ?_
    · rw [Sea.run_append]; exact a3
    · rw [Sea.run_append, Sea.run_append]; exact h4
  unfold stepsAt
  rw [out]
  by_cases q : t < 2 * L
  · rw [if_pos (show (t : Int) < 2 * (L : Int) by omega)]
    obtain ⟨z1, z2⟩ := c3.tick (by omega) (fun r hr => by have := rws_mem _ _ r hr; omega) (by omega)
    exact ⟨ok3 _ ⟨z1, trivial⟩, t + 1, 0, fun _ => ⟨rfl, rfl⟩, z2⟩
  · rw [if_neg (show ¬ (t : Int) < 2 * (L : Int) by omega)]
    exact ⟨ok3 _ trivial, t, pr1, fun z => absurd z q, c3⟩
def courseTo (tot most S late reserve : Int) (b o k : Nat) : List Stp := (List.range k).flatMap (stepsAt tot most S late reserve b o)
omit h0 h1 hS hob hL in
theorem courseTo_succ (k : Nat) {late : Int} : courseTo tot most S late reserve b o (k + 1) = courseTo tot most S late reserve b o k ++ stepsAt tot most S late reserve b o k := by
  unfold courseTo
  rw [List.range_succ, List.flatMap_append]
  simp
theorem cr_course {s : Sea} (h : Cr b n S most L reserve s 0 0 S True [] 0) : ∀ k : Nat, k ≤ 2 * L → s.allOk (courseTo tot most S L reserve b o k) ∧
    Cr b n S most L reserve (s.run (courseTo tot most S L reserve b o k)) k (tot - lft tot most k) (if k ≤ L then S else reserve) (k ≤ L) (rws tot most (k - L) (min k L)) 0
  | 0, _ => by
    refine ⟨trivial, ?_⟩
    rw [show tot - lft tot most 0 = 0 by show tot - tot = 0; omega, if_pos (Nat.zero_le _), show 0 - L = 0 by omega, show min 0 L = 0 by omega]
    exact h.weak fun _ => trivial
  | k + 1, hk => by
    obtain ⟨z1, z2⟩ := cr_course h k (by omega)
    obtain ⟨y1, now, pr, y2, y3⟩ := cr_round h0 h1 hS hob hL (by omega) z2
    obtain ⟨rfl, rfl⟩ := y2 (by omega)
    rw [courseTo_succ, Sea.run_append]
    exact ⟨Sea.allOk_append z1 y1, y3⟩
theorem cr_end {s : Sea} (h : Cr b n S most L reserve s 0 0 S True [] 0) (ht : tot ≤ (2 * L + 1) * most) : s.allOk (courseTo tot most S L reserve b o (2 * L + 1)) ∧
    ∃ now pr u, Cr b n S most L reserve (s.run (courseTo tot most S L reserve b o (2 * L + 1))) now tot reserve False u pr := by
  obtain ⟨z1, z2⟩ := cr_course h0 h1 hS hob hL h (2 * L) (Nat.le_refl _)
  obtain ⟨y1, now, pr, _, y3⟩ := cr_round h0 h1 hS hob hL (Nat.le_refl _) z2
  rw [courseTo_succ, Sea.run_append]
  refine ⟨Sea.allOk_append z1 y1, now, pr, rws tot most (2 * L + 1 - L) (min (2 * L + 1) L), ?_⟩
  have e : lft tot most (2 * L + 1) = 0 := by
    rcases lft_sub h0 (show 0 ≤ most by omega) (2 * L + 1) with e | e
    · exact e
    · have := lft_nn h0 (show 0 ≤ most by omega) (2 * L + 1)
      have e2 : ((2 * L + 1 : Nat) : Int) = 2 * (L : Int) + 1 := by omega
      rw [e2] at e
      omega
  rw [e, Int.sub_zero, if_neg (show ¬ 2 * L + 1 ≤ L by omega)] at y3
  exact y3.weak (tz' := False) fun z => z.elim
end
theorem steps_ok {tot most S reserve : Int} {b o n L : Nat} (hm : most ≤ 20) (hb : b < n) (ho : o < n) (hob : o ≠ b) (h1 : reserve < S) (h2 : S - reserve ≤ 500) (k : Nat) : ∀ st ∈ courseTo tot most S L reserve b o k, st.ok n := by
  intro st hst
  obtain ⟨t, _, ht⟩ := List.mem_flatMap.mp hst
  unfold stepsAt at ht
  simp only [List.mem_append] at ht
  rcases ht with ((ht | ht) | ht) | ht
  · split at ht
    · rename_i c
      rw [List.mem_singleton.mp ht]
      refine ⟨hb, by omega, ?_⟩
      unfold lnd at c ⊢
      omega
    · cases ht
  · split at ht
    · rw [List.mem_singleton.mp ht]
      exact ⟨hb, ho, Ne.symm hob, by omega, by omega⟩
    · cases ht
  · split at ht
    · rw [List.mem_singleton.mp ht]
      exact hb
    · cases ht
  · split at ht
    · rw [List.mem_singleton.mp ht]
      trivial
    · cases ht
theorem steps_len {tot most S late reserve : Int} {b o : Nat} : ∀ k : Nat, (courseTo tot most S late reserve b o k).length ≤ 4 * k
  | 0 => Nat.le_refl _
  | k + 1 => by
    rw [courseTo_succ, List.length_append]
    have := steps_len (tot := tot) (most := most) (S := S) (late := late) (reserve := reserve) (b := b) (o := o) k
    have : (stepsAt tot most S late reserve b o k).length ≤ 4 := by
      unfold stepsAt
      simp only [List.length_append]
      split <;> split <;> split <;> split <;> simp
    omega
end SH
end

section
/-! #### the walk's words -/
local macro_rules | `(tactic| walk_at "ne0") => `(tactic| first
  | assumption
  | (refine Ne.symm ?_; assumption))
local macro_rules | `(tactic| walk_at "ne") => `(tactic| first
  | assumption
  | (refine Ne.symm ?_; assumption)
  | (refine' L2.ne_of_none ?gx (by assumption); (case gx => walk_at "hp"))
  | (refine' Ne.symm (L2.ne_of_none ?gx (by assumption)); (case gx => walk_at "hp")))
local macro_rules | `(tactic| walk_at "hp") => `(tactic| first
  | assumption
  | exact L2.upd_same
  | (refine' SH.upd_new ?gh (by assumption); (case gh => walk_at "hp"))
  | (refine' (L2.upd_ne ?gn).trans ?gh; (case gn => walk_at "ne0"); (case gh => walk_at "hp"))
  | (refine' SH.Off.at (by assumption) ?gn ?gh; (case gn => walk_at "nin"); (case gh => walk_at "hp")))
local macro_rules | `(tactic| walk_at "nin") => `(tactic| first
  | exact SH.nin_nil
  | (refine SH.nin_cons ?_ ?_; (· walk_at "ne0"); (· walk_at "nin")))
local macro_rules | `(tactic| walk_at "sq") => `(tactic| first
  | assumption
  | (apply L2.SqL.of; (· walk_at "hp"))
  | (apply L2.SqT.of; (· walk_at "hp"))
  | (refine' SH.seqT_new ?gx (by assumption); (case gx => walk_at "sq"))
  | (refine' SH.seqL_new ?gx (by assumption); (case gx => walk_at "sq"))
  | (refine' SH.Off.seqT (by assumption) ?gx; (case gx => walk_at "sq"))
  | (refine' SH.Off.seqL (by assumption) ?gy ?gx; (case gx => walk_at "sq"); (case gy => walk_at "nin")))
local macro_rules | `(tactic| walk_at "kd") => `(tactic| first
  | assumption | exact SH.KdV.int _ | exact SH.KdV.bl _ | exact SH.KdV.str _ | exact SH.KdV.non
  | (apply SH.KdV.tup; (· walk_at "sq")) | (apply SH.KdV.lst; (· walk_at "sq")))
/-- a way that cannot be -/
local macro_rules | `(tactic| walk_at "no") => `(tactic| (exfalso; first | assumption | omega | contradiction | (simp_all; done)))
/-- one step -/
local macro_rules | `(tactic| walk_at "g1") => `(tactic| with_reducible first
  | refine SH.g_var (by with_unfolding_all rfl) ?_ | refine SH.g_c ?_ | refine SH.g_op ?_ | refine SH.g_un ?_ | refine SH.g_I0 ?_ | refine SH.g_U ?_
  | refine SH.g_eqI ?_ | refine SH.g_neI ?_ | refine SH.g_eqS ?_ | refine SH.g_neS ?_
  | refine SH.g_test ?_ | refine SH.g_B ?_ | refine SH.g_isB ?_ | refine SH.g_and ?_ | refine SH.g_or ?_ | refine SH.g_not ?_ | refine SH.g_andV ?_ | refine SH.g_orV ?_ | refine SH.g_notV ?_ | refine SH.g_ifE ?_ | refine SH.g_chain ?_
  | refine SH.g_nil ?_ | refine SH.g_cons ?_ | refine SH.g_tup ?_ | refine SH.g_lst ?_ | refine SH.g_call ?_ | refine SH.g_fld ?_ | refine SH.g_meth ?_ | refine SH.g_make ?_ | refine SH.g_cb ?_ | refine SH.g_bm ?_
  | refine SH.g_seq ?_ | refine SH.g_asg ?_ | refine SH.g_name ?_ | refine SH.g_drop ?_ | refine SH.g_ret ?_ | refine SH.g_retN ?_ | refine SH.g_next ?_ | refine SH.g_brk ?_ | refine SH.g_cnt ?_ | refine SH.g_ifs ?_ | refine SH.g_par ?_ | refine SH.g_par2 ?_ | refine SH.g_fldS ?_ | refine SH.g_raise ?_ | refine SH.g_rs ?_
  | refine SH.g_sub ?_ | refine SH.g_yes ?_ | refine SH.g_sl ?_ | refine SH.g_noPart ?_ | refine SH.g_part ?_ | refine SH.g_intO ?_ | refine SH.g_dget ?_ | refine SH.g_dput ?_ | refine SH.g_forR ?_ | refine SH.g_forL ?_ | refine SH.g_forT ?_ | refine SH.g_lcR ?_ | refine SH.g_lcL ?_ | refine SH.g_lcT ?_ | refine SH.g_gcons ?_ | refine SH.g_gnil ?_
  | refine SH.br_t ?_ | refine SH.br_f ?_
  | refine SH.g_int ?_ | refine SH.g_abs ?_ | refine SH.g_max2 ?_ | refine SH.g_min2 ?_)
local macro_rules | `(tactic| walk_at "g2") => `(tactic| first
  | walk_at "g1"
  | ((with_reducible refine' SH.g_isiInt ?ga ?gz); (case ga => walk_at "kd"))
  | ((with_reducible refine' SH.g_isiBool ?ga ?gz); (case ga => walk_at "kd"))
  | ((with_reducible refine' SH.g_isiStr ?ga ?gz); (case ga => walk_at "kd"))
  | ((with_reducible refine' SH.g_isiTup ?ga ?gz); (case ga => walk_at "kd"))
  | ((with_reducible refine' SH.g_ixT ?ga ?gb ?gz); (case ga => walk_at "sq"); (case gb => rfl))
  | ((with_reducible refine' SH.g_ixL ?ga ?gb ?gz); (case ga => walk_at "sq"); (case gb => first | rfl | (apply SH.atI_refs; assumption)))
  | ((with_reducible refine SH.br_F ?_ ?_); (· decide +kernel)) | ((with_reducible refine SH.br_T ?_ ?_); (· decide +kernel)) | ((with_reducible refine SH.br_NF ?_ ?_); (· decide +kernel)) | ((with_reducible refine SH.br_NT ?_ ?_); (· decide +kernel))
  | ((with_reducible refine' SH.g_gtup ?ga ?gb ?gz); (case ga => walk_at "sq"); (case gb => rfl))
  | ((with_reducible refine' SH.g_lenT ?ga ?gz); (case ga => walk_at "sq"))
  | ((with_reducible refine' SH.g_lenL ?ga ?gz); (case ga => walk_at "sq"))
  | ((with_reducible refine SH.g_mkT (SH.sz rfl) ?_); intro _ _)
  | ((with_reducible refine SH.g_mkL (SH.sz rfl) ?_); intro _ _)
  | ((with_reducible refine SH.g_dnew ?_); intro _ _)
  | ((with_reducible refine' SH.g_tupL ?ga ?gz); (case ga => walk_at "sq"); intro _ _)
  | ((with_reducible refine' SH.g_lstL ?ga ?gz); (case ga => walk_at "sq"); intro _ _)
  | ((with_reducible refine' SH.g_lstT ?ga ?gz); (case ga => walk_at "sq"); intro _ _)
  | ((with_reducible refine' SH.g_dgR ?ga ?gb ?gz); (case ga => walk_at "hp"); (case gb => walk_at "dv"))
  | ((with_reducible refine' SH.g_fldR ?ga ?gb ?gc ?gd ?gz); (case ga => walk_at "hp"); (case gb => walk_at "cl"); (case gc => walk_at "na"); (case gd => walk_at "fv"))
  | ((with_reducible refine' SH.g_insR ?ga ?gb ?gz); (case ga => walk_at "hp"); (case gb => walk_at "fn"))
  | ((with_reducible refine' SH.g_setL ?ga ?gb ?gz); (case ga => walk_at "hp"); (case gb => rfl))
  | ((with_reducible refine SH.g_I ?_ ?_); (· walk_at "ci"))
  | ((with_reducible refine' SH.g_slL ?ga ?gz); (case ga => walk_at "sq"); intro _ _)
  | ((with_reducible refine' SH.g_cat ?ga ?gb ?gc ?gz); (case ga => walk_at "hp"); (case gb => walk_at "hp"); (case gc => walk_at "ls"); intro _ _))
/-- the side conditions of numbers: a divisor, a factor -/
local macro_rules | `(tactic| walk_at "ci") => `(tactic| first
  | (show _ ≠ _; omega) | (show _ < _; omega) | (constructor <;> omega) | (refine Or.inr ⟨?_, ?_⟩ <;> (show _ < _; omega)) | (refine Or.inl ⟨?_, ?_⟩ <;> (show _ < _; omega)) | (refine ⟨?_, ?_, ?_⟩ <;> decide))
local macro_rules | `(tactic| walk_at "ls") => `(tactic| first | (show _ ≤ _; exact Nat.le_trans (by assumption) (by decide)) | (show _ ≤ _; exact Nat.le_trans (by simp; omega) (by decide : 1000 ≤ sizeLine)))
local macro_rules | `(tactic| walk_at "dv") => `(tactic| rfl)
local macro_rules | `(tactic| walk_at "fv") => `(tactic| rfl)
local macro_rules | `(tactic| walk_at "fn") => `(tactic| rfl)
local macro_rules | `(tactic| walk_at "cl") => `(tactic| assumption)
local macro_rules | `(tactic| walk_at "na") => `(tactic| assumption)
local macro_rules | `(tactic| walk_at "go") => `(tactic| repeat walk_at "g2")
/-- a way is split -/
local macro_rules | `(tactic| walk_at "br") => `(tactic| with_reducible first
  | refine SH.br_d (fun _ => ?_) (fun _ => ?_) | refine SH.br_nd (fun _ => ?_) (fun _ => ?_) | refine SH.br_b (fun _ => ?_) (fun _ => ?_))
/-- all ways -/
local macro_rules | `(tactic| walk_at "all") => `(tactic| repeat' first | walk_at "g2" | (walk_at "br" <;> try (walk_at "no")))
/-- a truth value is the other -/
local macro_rules | `(tactic| walk_at "bq") => `(tactic| first | rfl | (simp_all; done) | (simp_all; omega) | (simp only [decide_eq_true_eq, decide_eq_false_iff_not, Bool.and_eq_true, Bool.or_eq_true] at *; omega))
/-- what was tracked is as it was -/
local macro_rules | `(tactic| walk_at "of") => `(tactic| first
  | assumption
  | exact SH.Off.refl _ _
  | (refine' SH.Off.new2 ?gx (by assumption); (case gx => walk_at "of"))
  | (refine' SH.Off.mut ?gx (by assumption); (case gx => walk_at "of"))
  | (refine' SH.Off.trans' ?gx (by assumption) ?gy; (case gy => (intro _ h; (first | exact h | (simp at h; done) | (simp at h ⊢; simp [h]; done)))); (case gx => walk_at "of")))
/-- the own season's dicts -/
local macro_rules | `(tactic| walk_at "dv") => `(tactic| with_reducible first
  | exact SH.bk_right | exact SH.bk_heard | exact SH.bk_landed | exact SH.bk_told | exact SH.bk_untold | exact SH.bk_unheard | exact SH.bk_present
  | exact SH.ok_own | exact SH.ok_now | exact SH.ok_boats | exact SH.ok_broken | exact SH.ok_beyond)
local macro_rules | `(tactic| walk_at "dw") => `(tactic| with_reducible first
  | exact SH.bp_right | exact SH.bp_heard | exact SH.bp_landed | exact SH.bp_told | exact SH.bp_untold | exact SH.bp_unheard | exact SH.bp_present
  | exact SH.op_now | exact SH.op_broken | exact SH.op_beyond)
local macro_rules | `(tactic| walk_at "g2") => `(tactic|
  ((with_reducible refine' SH.g_dpA ?ga ?gb ?gc ?gz); (case ga => walk_at "hp"); (case gb => walk_at "dw"); (case gc => exact SH.szk rfl); intro _ _ _))
local macro_rules | `(tactic| walk_at "sq") => `(tactic|
  ((refine' SH.seqT_put ?gx ?gy ?gz); (case gy => walk_at "hp"); (case gz => exact trivial); (case gx => walk_at "sq")))
local macro_rules | `(tactic| walk_at "g2") => `(tactic|
  ((with_reducible refine' SH.g_ixL ?ga ?gb ?gz); (case ga => walk_at "sq"); (case gb => first | rfl | (apply SH.atI_refs; assumption) | exact SH.atI_cons0)))
/-- the package's season: its instances -/
local macro_rules | `(tactic| walk_at "fv") => `(tactic| with_reducible first
  | exact SH.bf_right | exact SH.bf_heard | exact SH.bf_landed | exact SH.bf_told | exact SH.bf_untold | exact SH.bf_unheard | exact SH.bf_present
  | exact SH.pf_shares | exact SH.pf_most | exact SH.pf_late | exact SH.pf_reserve
  | exact SH.sf_plan | exact SH.sf_now | exact SH.sf_boats | exact SH.sf_broken | exact SH.sf_beyond)
local macro_rules | `(tactic| walk_at "fp") => `(tactic| with_reducible first
  | exact SH.bq_right | exact SH.bq_heard | exact SH.bq_landed | exact SH.bq_told | exact SH.bq_present | exact SH.sq_now | exact SH.sq_broken)
local macro_rules | `(tactic| walk_at "fn") => `(tactic| kernel_rfl)
local macro_rules | `(tactic| walk_at "lt") => `(tactic| (rw [PySem.sizeLine_eq]; omega))
local macro_rules | `(tactic| walk_at "g2") => `(tactic| first
  | (with_reducible first | refine SH.br_ntt ?_ | refine SH.br_ntf ?_ | refine SH.br_k ?_ | refine SH.br_nk ?_ | refine SH.g_fldAug ?_ | refine SH.g_rAdd ?_ | refine SH.g_rSub ?_)
  | ((with_reducible refine SH.br_inF ?_ ?_); (· decide +kernel)) | ((with_reducible refine SH.br_inT ?_ ?_); (· decide +kernel))
  | ((with_reducible refine' SH.g_inT ?ga ?gb ?gc ?gz); (case ga => walk_at "sq"); (case gb => exact rfl); (case gc => kernel_rfl))
  | ((with_reducible refine' SH.g_stA ?ga ?gb ?gc ?gd ?ge ?gz); (case ga => walk_at "hp"); (case gb => walk_at "cl"); (case gc => walk_at "na"); (case gd => walk_at "fp"); (case ge => exact SH.szf rfl); intro _ _ _)
  | ((with_reducible refine' SH.g_augR ?ga ?gb ?gc ?gd ?gz); (case ga => walk_at "hp"); (case gb => walk_at "cl"); (case gc => walk_at "na"); (case gd => walk_at "fv"))
  | ((with_reducible refine' SH.g_putC ?ga ?gb ?gc ?gz); (case ga => walk_at "hp"); (case gb => walk_at "fp"); (case gc => exact SH.szf rfl); intro _ _ _)
  | ((with_reducible refine' SH.g_app' ?ga ?gb ?gz); (case ga => walk_at "hp"); (case gb => walk_at "lt"); intro _ _ _)
  | ((with_reducible refine' SH.g_popF ?ga ?gz); (case ga => walk_at "hp"); intro _ _ _)
  | ((with_reducible refine' SH.g_bml ?ga ?gz); (case ga => walk_at "sq"))
  | ((with_reducible refine' SH.g_isiSelf ?ga ?gb ?gc ?gz); (case ga => walk_at "hp"); (case gb => walk_at "cl"); (case gc => walk_at "cl")))
local macro_rules | `(tactic| walk_at "g2") => `(tactic|
  ((with_reducible refine' SH.g_ixL ?ga ?gb ?gz); (case ga => walk_at "sq"); (case gb => first | rfl | (apply SH.atI_refs; assumption) | exact SH.atI_cons0 | (apply SH.atI_bs; assumption))))
namespace SH
open PySem PySem.Spec PyProof.Rows L2
/-! ### safety's numbers -/
def mx : List Int → Int
  | [] => 0
  | a :: l => max a (mx l)
theorem mx_le : ∀ {ss : List Int} {y : Int}, y ∈ ss → y ≤ mx ss
  | a :: l, y, h => by
    show y ≤ max a (mx l)
    rcases List.mem_cons.mp h with rfl | h
    · omega
    · have := mx_le h; omega
theorem mx_mem : ∀ {ss : List Int}, 0 < ss.length → (∀ y ∈ ss, 0 ≤ y) → mx ss ∈ ss
  | [a], _, h => by
    have := h a (by simp)
    show max a 0 ∈ _
    rw [show max a 0 = a by omega]; simp
  | a :: b :: l, _, h => by
    have z := mx_mem (ss := b :: l) (by simp) (fun y hy => h y (List.mem_cons_of_mem _ hy))
    show max a (mx (b :: l)) ∈ _
    by_cases c : a ≤ mx (b :: l)
    · rw [show max a (mx (b :: l)) = mx (b :: l) by omega]; exact List.mem_cons_of_mem _ z
    · rw [show max a (mx (b :: l)) = a by omega]; exact List.mem_cons_self
theorem mx_of {ss : List Int} {m : Int} (h0 : ∀ y ∈ ss, 0 ≤ y) (h : m ∈ ss) (hm : ∀ y ∈ ss, y ≤ m) : m = mx ss := by
  have a := mx_le h
  have b := hm _ (mx_mem (List.length_pos_of_mem h) h0)
  omega
def needI (ss : List Int) (most late : Int) : Int := if ss.length = 1 then 0 else min ((2 * late + 1) * most) (mx ss)
def spPlV (K : PySem.W.Frag) (f : List Int → Int → Int → Int → V) : Sp := fun vs H Q _ => ∃ p sh ss most late reserve, vs = [.ref p] ∧ PlanH K H p sh ss most late reserve ∧ Q (f ss most late reserve) H
def spPl (K : PySem.W.Frag) (f : List Int → Int → Int → Int → V) : Sp := fun vs H Q E => spPlV K f vs H Q E ∨ OddP K vs H E
section
variable {P : Program} {w : World} {K : PySem.W.Frag} {mg : Str → Option Value} {base : Heap}
theorem ok_needed (T : Txt P w K mg) : DefOk P w K mg base "needed" 1 ["plan"] (spPlV K fun ss most late _ => .int (needI ss most late)) := by
  refine T.d_needed.ok sc_needed (fun _ _ _ _ _ _ us hl => match us, hl with | [_], _ => rfl) (fun vs H Q E h => ?_) (fun f cdv A outer s H vs Q E hr h => ?_)
  · obtain ⟨p, sh, ss, most, late, reserve, rfl, _⟩ := h
    rfl
  · obtain ⟨p, sh, ss, most, late, reserve, rfl, hp, q⟩ := h
    replace q : Q (.int (needI ss most late)) H := q
    have B := T.blt
    have hu := hu_of hr
    have cl_Plan := T.cl_Plan
    have is_Plan := T.is_Plan
    have na_Plan_shares := T.na_Plan_shares
    have na_Plan_most := T.na_Plan_most
    have na_Plan_late := T.na_Plan_late
    have cl_Boat := T.cl_Boat
    have is_Boat := T.is_Boat
    have cl_Season := T.cl_Season
    have is_Season := T.is_Season
    refine ⟨_, (pss_cons (ps_if (pt_cmpR op_eq (pe_callB (c_lenK (K := K) rfl) (by rfl) B.b_len PySem.boot_len (pa_cons (pe_fldK (K := K) rfl (pv 0) rfl) pa_nil)) pe_int (nomark _))
    (pss_one (ps_ret pe_int))
    pss_nil)
  (pss_one (ps_ret (pe_callB (c_min2 rfl) (by rfl) B.b_min (by decide +kernel) (pa_cons (pe_op op_mul (pe_op op_add (pe_op op_mul pe_int (pe_fldK (K := K) rfl (pv 0) rfl)) pe_int) (pe_fldK (K := K) rfl (pv 0) rfl)) (pa_cons (pe_callB (cr_maxTK (K := K) rfl rfl) (by rfl) B.b_max (by decide +kernel) (pa_cons (pe_fldK (K := K) rfl (pv 0) rfl) pa_nil)) pa_nil)))))), ?_⟩
    obtain ⟨dx, h1⟩ := hp.at_
    have hs := hp.sh_.sq (K := K)
    have hok := hp.ok
    have n0 := hok.n0
    have m0 := hok.m0
    have m1 := hok.m1
    have l0 := hok.l0
    have l1 := hok.l1
    walk_at "go"
    refine br_d (fun c1 => ?_) (fun c1 => ?_)
    · walk_at "go"
      rw [List.length_map] at c1
      have e : needI ss most late = 0 := if_pos (by omega)
      rw [e] at q
      exact q
    · walk_at "go"
      refine ⟨sh, ss, rfl, hs, by omega, fun m hm hx => ?_⟩
      walk_at "go"
      rw [List.length_map] at c1
      have e : needI ss most late = min ((2 * late + 1) * most) (mx ss) := if_neg (by omega)
      have e2 := mx_of (fun y hy => (hok.s0 y hy).1) hm hx
      rw [e, ← e2] at q
      have e3 : (if m < (2 * late + 1) * most then m else (2 * late + 1) * most) = min ((2 * late + 1) * most) m := by
        split <;> omega
      rw [e3]
      exact q
theorem okL_is_safe (T : Txt P w K mg) : DefL P w K mg base "is_safe" 3 ["plan"] (spPl K fun ss most late reserve => .bl (decide (needI ss most late ≤ reserve))) := by
  refine T.d_is_safe.okL sc_is_safe (fun _ _ _ _ _ _ us hl => match us, hl with | [_], _ => rfl) (fun vs H Q E h => ?_) (fun f cdv A outer s H vs Q E hr h => ?_)
  · rcases h with ⟨p, sh, ss, most, late, reserve, rfl, _⟩ | ⟨v, kd, rfl, _⟩ <;> rfl
  · have B := T.blt
    have hu := hu_of hr
    have G_demand := ok_demand (base := base) T
    have G_needed := ok_needed (base := base) T
    have cl_Plan := T.cl_Plan
    have is_Plan := T.is_Plan
    have na_Plan_reserve := T.na_Plan_reserve
    have cl_Boat := T.cl_Boat
    have is_Boat := T.is_Boat
    have cl_Season := T.cl_Season
    have is_Season := T.is_Season
    refine ⟨_, (pss_cons (ps_expr (pe_df G_demand (hr.mono (by decide)) (L2N.passes_call (L2N.takes_of rfl rfl rfl rfl) fun _ _ _ _ z => z) (pa_cons (pe_callB (call_isiK' (K := K) rfl) (by rfl) B.b_isinstance (by decide +kernel) (pa_cons (pv 0) (pa_cons (pe_glob (v := .ref (He.ga K "Plan")) rfl T.g_Plan rfl) pa_nil))) (pa_cons pe_str pa_nil))))
  (pss_one (ps_ret (pe_cmpR op_ge (pe_fldK (K := K) rfl (pv 0) rfl) (pe_df G_needed (hr.mono (by decide)) (L2N.passes_call (L2N.takes_of rfl rfl rfl rfl) fun _ _ _ _ z => z) (pa_cons (pv 0) pa_nil)) (nomark _))))), ?_⟩
    rcases h with ⟨p, sh, ss, most, late, reserve, rfl, hp, q⟩ | ⟨v, kd, rfl, hk, q⟩
    rotate_left 1
    · walk_at "go"
      refine g_isiKd hk T.kn_Plan ?_
      walk_at "go"
      exact ⟨_, _, rfl, (fun z => by cases z), fun _ d hd => q d hd⟩
    obtain ⟨dx, h1⟩ := hp.at_
    walk_at "go"
    refine ⟨_, _, rfl, fun _ => ?_, fun z => by cases z⟩
    walk_at "go"
    refine ⟨p, sh, ss, most, late, reserve, rfl, hp, ?_⟩
    walk_at "go"
    exact q
theorem ok_is_safe (T : Txt P w K mg) : DefOk P w K mg base "is_safe" 3 ["plan"] (spPl K fun ss most late reserve => .bl (decide (needI ss most late ≤ reserve))) := (okL_is_safe T).ok
theorem okL_least_reserve (T : Txt P w K mg) : DefL P w K mg base "least_reserve" 3 ["plan"] (spPl K fun ss most late _ => .int (needI ss most late)) := by
  refine T.d_least_reserve.okL sc_least_reserve (fun _ _ _ _ _ _ us hl => match us, hl with | [_], _ => rfl) (fun vs H Q E h => ?_) (fun f cdv A outer s H vs Q E hr h => ?_)
  · rcases h with ⟨p, sh, ss, most, late, reserve, rfl, _⟩ | ⟨v, kd, rfl, _⟩ <;> rfl
  · have B := T.blt
    have hu := hu_of hr
    have G_demand := ok_demand (base := base) T
    have G_needed := ok_needed (base := base) T
    have cl_Plan := T.cl_Plan
    have is_Plan := T.is_Plan
    refine ⟨_, (pss_cons (ps_expr (pe_df G_demand (hr.mono (by decide)) (L2N.passes_call (L2N.takes_of rfl rfl rfl rfl) fun _ _ _ _ z => z) (pa_cons (pe_callB (call_isiK' (K := K) rfl) (by rfl) B.b_isinstance (by decide +kernel) (pa_cons (pv 0) (pa_cons (pe_glob (v := .ref (He.ga K "Plan")) rfl T.g_Plan rfl) pa_nil))) (pa_cons pe_str pa_nil))))
  (pss_one (ps_ret (pe_df G_needed (hr.mono (by decide)) (L2N.passes_call (L2N.takes_of rfl rfl rfl rfl) fun _ _ _ _ z => z) (pa_cons (pv 0) pa_nil))))), ?_⟩
    rcases h with ⟨p, sh, ss, most, late, reserve, rfl, hp, q⟩ | ⟨v, kd, rfl, hk, q⟩
    rotate_left 1
    · walk_at "go"
      refine g_isiKd hk T.kn_Plan ?_
      walk_at "go"
      exact ⟨_, _, rfl, (fun z => by cases z), fun _ d hd => q d hd⟩
    obtain ⟨dx, h1⟩ := hp.at_
    walk_at "go"
    refine ⟨_, _, rfl, fun _ => ?_, fun z => by cases z⟩
    walk_at "go"
    refine ⟨p, sh, ss, most, late, reserve, rfl, hp, ?_⟩
    exact q
theorem ok_least_reserve (T : Txt P w K mg) : DefOk P w K mg base "least_reserve" 3 ["plan"] (spPl K fun ss most late _ => .int (needI ss most late)) := (okL_least_reserve T).ok
/-- what a boat lands -/
def spLof (K : PySem.W.Frag) : Sp := fun vs H Q _ => ∃ (p sh : Addr) (ss : List Int) (most late reserve : Int) (b : Nat) (S : Int), vs = [.ref p, .int ((b : Nat) : Int)] ∧ PlanH K H p sh ss most late reserve ∧ ss[b]? = some S ∧
  ∀ l H', H l = none → H' l = some (.lst ((List.range (2 * late.toNat + 1)).map fun t => .int (lnd (min S ((2 * late + 1) * most)) most t))) → Off [] H H' → Q (.ref l) H'
theorem atI_ints {ns : List Int} {b : Nat} {a : Int} (h : ns[b]? = some a) : atI (ns.map V.int) (b : Int) = some (.int a) := by
  have hl := (List.getElem?_eq_some_iff.mp h).1
  unfold atI ixN
  rw [if_pos (by omega), if_pos (by rw [List.length_map]; omega)]
  simp [h]
theorem atI_last {xs : List V} {y : V} : atI (xs ++ [y]) (-1) = some y := by
  unfold atI ixN
  rw [if_neg (by omega), if_pos (by rw [List.length_append, List.length_singleton]; omega), List.length_append, List.length_singleton]
  show (xs ++ [y])[(-1 + ((xs.length + 1 : Nat) : Int)).toNat]? = some y
  rw [show (-1 + ((xs.length + 1 : Nat) : Int)).toNat = xs.length by omega]
  simp
theorem ok_landings_of (T : Txt P w K mg) : DefOk P w K mg base "landings_of" 1 ["plan", "boat"] (spLof K) := by
  refine T.d_landings_of.ok sc_landings_of (fun _ _ _ _ _ _ us hl => match us, hl with | [_, _], _ => rfl) (fun vs H Q E h => ?_) (fun f cdv A outer s H vs Q E hr h => ?_)
  · obtain ⟨p, sh, ss, most, late, reserve, b, S, rfl, _⟩ := h
    rfl
  · obtain ⟨p, sh, ss, most, late, reserve, b, S, rfl, hp, hS, q⟩ := h
    have B := T.blt
    have hu := hu_of hr
    have cl_Plan := T.cl_Plan
    have is_Plan := T.is_Plan
    have na_Plan_shares := T.na_Plan_shares
    have na_Plan_most := T.na_Plan_most
    have na_Plan_late := T.na_Plan_late
    have cl_Boat := T.cl_Boat
    have is_Boat := T.is_Boat
    have cl_Season := T.cl_Season
    have is_Season := T.is_Season
    refine ⟨_, (pss_cons (ps_par (i := 2) (j := 3) (by rfl) sc_landings_of.nd rfl rfl (by decide) rfl rfl (pa_cons (pe_callB (c_min2 rfl) (by rfl) B.b_min (by decide +kernel) (pa_cons (pe_ix (ix_tupK (K := K) rfl) (pe_fldK (K := K) rfl (pv 0) rfl) (pv 1) (fun _ _ => rfl)) (pa_cons (pe_op op_mul (pe_op op_add (pe_op op_mul pe_int (pe_fldK (K := K) rfl (pv 0) rfl)) pe_int) (pe_fldK (K := K) rfl (pv 0) rfl)) pa_nil))) (pa_cons (pe_lst pa_nil) pa_nil)) (by rfl))
  (pss_cons (ps_for (passes_of rfl) rfl (pi_range1 rfl B.b_range (pa_cons (pe_op op_add (pe_op op_mul pe_int (pe_fldK (K := K) rfl (pv 0) rfl)) pe_int) pa_nil)) (pg_name (i := 4) sc_landings_of.nd rfl (by first | exact Or.inl rfl | exact Or.inr rfl))
    (pss_cons (ps_expr (pe_bmK (K := K) rfl PySem.F.plainAttrs_list PySem.F.slot_list_append PySem.F.type_list_append mt_append (pv 3) (pa_cons (pe_callB (c_min2 rfl) (by rfl) B.b_min (by decide +kernel) (pa_cons (pv 2) (pa_cons (pe_fldK (K := K) rfl (pv 0) rfl) pa_nil))) pa_nil)))
  (pss_one (ps_set (i := 2) sc_landings_of.nd rfl (by first | exact Or.inl rfl | exact Or.inr rfl) (pe_op op_sub (pv 2) (pe_ix (ix_listK (K := K) rfl) (pv 3) (pe_un un_neg pe_int) (fun _ _ => rfl)))))))
  (pss_one (ps_ret (pv 3))))), ?_⟩
    obtain ⟨dx, h1⟩ := hp.at_
    have hs := hp.sh_.sq (K := K)
    have hok := hp.ok
    have m0 := hok.m0
    have m1 := hok.m1
    have l0 := hok.l0
    have l1 := hok.l1
    walk_at "go"
    refine g_ixT hs (v := .int S) (by exact atI_ints hS) ?_
    walk_at "go"
    rename_i l hl
    have et : (if (2 * late + 1) * most < S then (2 * late + 1) * most else S) = min S ((2 * late + 1) * most) := by split <;> omega
    rw [et]
    generalize min S ((2 * late + 1) * most) = tot at *
    have npl : p ≠ l := ne_of_none h1 hl
    refine forR_mk (fun i σ H1 => ∃ t, σ = [some (.ref p), some (.int ((b : Nat) : Int)), some (.int (lft tot most i)), some (.ref l), t] ∧ H1 l = some (.lst ((List.range i).map fun t => .int (lnd tot most t))) ∧ Off [] H H1) (by omega)
      ⟨none, rfl, upd_same, .new hl⟩ (fun i σ H1 hi hP => ?_) (fun σ H1 hP => ?_)
    · obtain ⟨t, rfl, q1, oo⟩ := hP
      have h1' := oo.at nin_nil h1
      walk_at "go"
      have ey : (if most < lft tot most i then most else lft tot most i) = lnd tot most i := by
        unfold lnd
        split <;> omega
      rw [ey]
      refine g_app' q1 (by rw [sizeLine_eq, List.length_map, List.length_range]; omega) fun H2 e2 o2 => ?_
      walk_at "go"
      refine g_ixL (.of e2) (v := .int (lnd tot most i)) (by exact atI_last) ?_
      walk_at "go"
      exact ⟨_, rfl, by rw [List.range_succ, List.map_append]; exact e2, oo.mutA o2 hl⟩
    · obtain ⟨t, rfl, q1, oo⟩ := hP
      walk_at "go"
      refine q l H1 hl ?_ oo
      rw [q1, show (2 * late + 1).toNat = 2 * late.toNat + 1 by omega]
end
end SH
end

section
/-! #### the walk's words -/
local macro_rules | `(tactic| walk_at "ne0") => `(tactic| first
  | assumption
  | (refine Ne.symm ?_; assumption))
local macro_rules | `(tactic| walk_at "ne") => `(tactic| first
  | assumption
  | (refine Ne.symm ?_; assumption)
  | (refine' L2.ne_of_none ?gx (by assumption); (case gx => walk_at "hp"))
  | (refine' Ne.symm (L2.ne_of_none ?gx (by assumption)); (case gx => walk_at "hp")))
local macro_rules | `(tactic| walk_at "hp") => `(tactic| first
  | assumption
  | exact L2.upd_same
  | (refine' SH.upd_new ?gh (by assumption); (case gh => walk_at "hp"))
  | (refine' (L2.upd_ne ?gn).trans ?gh; (case gn => walk_at "ne0"); (case gh => walk_at "hp"))
  | (refine' SH.Off.at (by assumption) ?gn ?gh; (case gn => walk_at "nin"); (case gh => walk_at "hp")))
local macro_rules | `(tactic| walk_at "nin") => `(tactic| first
  | exact SH.nin_nil
  | (refine SH.nin_cons ?_ ?_; (· walk_at "ne0"); (· walk_at "nin")))
local macro_rules | `(tactic| walk_at "sq") => `(tactic| first
  | assumption
  | (apply L2.SqL.of; (· walk_at "hp"))
  | (apply L2.SqT.of; (· walk_at "hp"))
  | (refine' SH.seqT_new ?gx (by assumption); (case gx => walk_at "sq"))
  | (refine' SH.seqL_new ?gx (by assumption); (case gx => walk_at "sq"))
  | (refine' SH.Off.seqT (by assumption) ?gx; (case gx => walk_at "sq"))
  | (refine' SH.Off.seqL (by assumption) ?gy ?gx; (case gx => walk_at "sq"); (case gy => walk_at "nin")))
local macro_rules | `(tactic| walk_at "kd") => `(tactic| first
  | assumption | exact SH.KdV.int _ | exact SH.KdV.bl _ | exact SH.KdV.str _ | exact SH.KdV.non
  | (apply SH.KdV.tup; (· walk_at "sq")) | (apply SH.KdV.lst; (· walk_at "sq")))
/-- a way that cannot be -/
local macro_rules | `(tactic| walk_at "no") => `(tactic| (exfalso; first | assumption | omega | contradiction | (simp_all; done)))
/-- one step -/
local macro_rules | `(tactic| walk_at "g1") => `(tactic| with_reducible first
  | refine SH.g_var (by with_unfolding_all rfl) ?_ | refine SH.g_c ?_ | refine SH.g_op ?_ | refine SH.g_un ?_ | refine SH.g_I0 ?_ | refine SH.g_U ?_
  | refine SH.g_eqI ?_ | refine SH.g_neI ?_ | refine SH.g_eqS ?_ | refine SH.g_neS ?_
  | refine SH.g_test ?_ | refine SH.g_B ?_ | refine SH.g_isB ?_ | refine SH.g_and ?_ | refine SH.g_or ?_ | refine SH.g_not ?_ | refine SH.g_andV ?_ | refine SH.g_orV ?_ | refine SH.g_notV ?_ | refine SH.g_ifE ?_ | refine SH.g_chain ?_
  | refine SH.g_nil ?_ | refine SH.g_cons ?_ | refine SH.g_tup ?_ | refine SH.g_lst ?_ | refine SH.g_call ?_ | refine SH.g_fld ?_ | refine SH.g_meth ?_ | refine SH.g_make ?_ | refine SH.g_cb ?_ | refine SH.g_bm ?_
  | refine SH.g_seq ?_ | refine SH.g_asg ?_ | refine SH.g_name ?_ | refine SH.g_drop ?_ | refine SH.g_ret ?_ | refine SH.g_retN ?_ | refine SH.g_next ?_ | refine SH.g_brk ?_ | refine SH.g_cnt ?_ | refine SH.g_ifs ?_ | refine SH.g_par ?_ | refine SH.g_par2 ?_ | refine SH.g_fldS ?_ | refine SH.g_raise ?_ | refine SH.g_rs ?_
  | refine SH.g_sub ?_ | refine SH.g_yes ?_ | refine SH.g_sl ?_ | refine SH.g_noPart ?_ | refine SH.g_part ?_ | refine SH.g_intO ?_ | refine SH.g_dget ?_ | refine SH.g_dput ?_ | refine SH.g_forR ?_ | refine SH.g_forL ?_ | refine SH.g_forT ?_ | refine SH.g_lcR ?_ | refine SH.g_lcL ?_ | refine SH.g_lcT ?_ | refine SH.g_gcons ?_ | refine SH.g_gnil ?_
  | refine SH.br_t ?_ | refine SH.br_f ?_
  | refine SH.g_int ?_ | refine SH.g_abs ?_ | refine SH.g_max2 ?_ | refine SH.g_min2 ?_)
local macro_rules | `(tactic| walk_at "g2") => `(tactic| first
  | walk_at "g1"
  | ((with_reducible refine' SH.g_isiInt ?ga ?gz); (case ga => walk_at "kd"))
  | ((with_reducible refine' SH.g_isiBool ?ga ?gz); (case ga => walk_at "kd"))
  | ((with_reducible refine' SH.g_isiStr ?ga ?gz); (case ga => walk_at "kd"))
  | ((with_reducible refine' SH.g_isiTup ?ga ?gz); (case ga => walk_at "kd"))
  | ((with_reducible refine' SH.g_ixT ?ga ?gb ?gz); (case ga => walk_at "sq"); (case gb => rfl))
  | ((with_reducible refine' SH.g_ixL ?ga ?gb ?gz); (case ga => walk_at "sq"); (case gb => first | rfl | (apply SH.atI_refs; assumption)))
  | ((with_reducible refine SH.br_F ?_ ?_); (· decide +kernel)) | ((with_reducible refine SH.br_T ?_ ?_); (· decide +kernel)) | ((with_reducible refine SH.br_NF ?_ ?_); (· decide +kernel)) | ((with_reducible refine SH.br_NT ?_ ?_); (· decide +kernel))
  | ((with_reducible refine' SH.g_gtup ?ga ?gb ?gz); (case ga => walk_at "sq"); (case gb => rfl))
  | ((with_reducible refine' SH.g_lenT ?ga ?gz); (case ga => walk_at "sq"))
  | ((with_reducible refine' SH.g_lenL ?ga ?gz); (case ga => walk_at "sq"))
  | ((with_reducible refine SH.g_mkT (SH.sz rfl) ?_); intro _ _)
  | ((with_reducible refine SH.g_mkL (SH.sz rfl) ?_); intro _ _)
  | ((with_reducible refine SH.g_dnew ?_); intro _ _)
  | ((with_reducible refine' SH.g_tupL ?ga ?gz); (case ga => walk_at "sq"); intro _ _)
  | ((with_reducible refine' SH.g_lstL ?ga ?gz); (case ga => walk_at "sq"); intro _ _)
  | ((with_reducible refine' SH.g_lstT ?ga ?gz); (case ga => walk_at "sq"); intro _ _)
  | ((with_reducible refine' SH.g_dgR ?ga ?gb ?gz); (case ga => walk_at "hp"); (case gb => walk_at "dv"))
  | ((with_reducible refine' SH.g_fldR ?ga ?gb ?gc ?gd ?gz); (case ga => walk_at "hp"); (case gb => walk_at "cl"); (case gc => walk_at "na"); (case gd => walk_at "fv"))
  | ((with_reducible refine' SH.g_insR ?ga ?gb ?gz); (case ga => walk_at "hp"); (case gb => walk_at "fn"))
  | ((with_reducible refine' SH.g_setL ?ga ?gb ?gz); (case ga => walk_at "hp"); (case gb => rfl))
  | ((with_reducible refine SH.g_I ?_ ?_); (· walk_at "ci"))
  | ((with_reducible refine' SH.g_slL ?ga ?gz); (case ga => walk_at "sq"); intro _ _)
  | ((with_reducible refine' SH.g_cat ?ga ?gb ?gc ?gz); (case ga => walk_at "hp"); (case gb => walk_at "hp"); (case gc => walk_at "ls"); intro _ _))
/-- the side conditions of numbers: a divisor, a factor -/
local macro_rules | `(tactic| walk_at "ci") => `(tactic| first
  | (show _ ≠ _; omega) | (show _ < _; omega) | (constructor <;> omega) | (refine Or.inr ⟨?_, ?_⟩ <;> (show _ < _; omega)) | (refine Or.inl ⟨?_, ?_⟩ <;> (show _ < _; omega)) | (refine ⟨?_, ?_, ?_⟩ <;> decide))
local macro_rules | `(tactic| walk_at "ls") => `(tactic| first | (show _ ≤ _; exact Nat.le_trans (by assumption) (by decide)) | (show _ ≤ _; exact Nat.le_trans (by simp; omega) (by decide : 1000 ≤ sizeLine)))
local macro_rules | `(tactic| walk_at "dv") => `(tactic| rfl)
local macro_rules | `(tactic| walk_at "fv") => `(tactic| rfl)
local macro_rules | `(tactic| walk_at "fn") => `(tactic| rfl)
local macro_rules | `(tactic| walk_at "cl") => `(tactic| assumption)
local macro_rules | `(tactic| walk_at "na") => `(tactic| assumption)
local macro_rules | `(tactic| walk_at "go") => `(tactic| repeat walk_at "g2")
/-- a way is split -/
local macro_rules | `(tactic| walk_at "br") => `(tactic| with_reducible first
  | refine SH.br_d (fun _ => ?_) (fun _ => ?_) | refine SH.br_nd (fun _ => ?_) (fun _ => ?_) | refine SH.br_b (fun _ => ?_) (fun _ => ?_))
/-- all ways -/
local macro_rules | `(tactic| walk_at "all") => `(tactic| repeat' first | walk_at "g2" | (walk_at "br" <;> try (walk_at "no")))
/-- a truth value is the other -/
local macro_rules | `(tactic| walk_at "bq") => `(tactic| first | rfl | (simp_all; done) | (simp_all; omega) | (simp only [decide_eq_true_eq, decide_eq_false_iff_not, Bool.and_eq_true, Bool.or_eq_true] at *; omega))
/-- what was tracked is as it was -/
local macro_rules | `(tactic| walk_at "of") => `(tactic| first
  | assumption
  | exact SH.Off.refl _ _
  | (refine' SH.Off.new2 ?gx (by assumption); (case gx => walk_at "of"))
  | (refine' SH.Off.mut ?gx (by assumption); (case gx => walk_at "of"))
  | (refine' SH.Off.trans' ?gx (by assumption) ?gy; (case gy => (intro _ h; (first | exact h | (simp at h; done) | (simp at h ⊢; simp [h]; done)))); (case gx => walk_at "of")))
/-- the own season's dicts -/
local macro_rules | `(tactic| walk_at "dv") => `(tactic| with_reducible first
  | exact SH.bk_right | exact SH.bk_heard | exact SH.bk_landed | exact SH.bk_told | exact SH.bk_untold | exact SH.bk_unheard | exact SH.bk_present
  | exact SH.ok_own | exact SH.ok_now | exact SH.ok_boats | exact SH.ok_broken | exact SH.ok_beyond)
local macro_rules | `(tactic| walk_at "dw") => `(tactic| with_reducible first
  | exact SH.bp_right | exact SH.bp_heard | exact SH.bp_landed | exact SH.bp_told | exact SH.bp_untold | exact SH.bp_unheard | exact SH.bp_present
  | exact SH.op_now | exact SH.op_broken | exact SH.op_beyond)
local macro_rules | `(tactic| walk_at "g2") => `(tactic|
  ((with_reducible refine' SH.g_dpA ?ga ?gb ?gc ?gz); (case ga => walk_at "hp"); (case gb => walk_at "dw"); (case gc => exact SH.szk rfl); intro _ _ _))
local macro_rules | `(tactic| walk_at "sq") => `(tactic|
  ((refine' SH.seqT_put ?gx ?gy ?gz); (case gy => walk_at "hp"); (case gz => exact trivial); (case gx => walk_at "sq")))
local macro_rules | `(tactic| walk_at "g2") => `(tactic|
  ((with_reducible refine' SH.g_ixL ?ga ?gb ?gz); (case ga => walk_at "sq"); (case gb => first | rfl | (apply SH.atI_refs; assumption) | exact SH.atI_cons0)))
/-- the package's season: its instances -/
local macro_rules | `(tactic| walk_at "fv") => `(tactic| with_reducible first
  | exact SH.bf_right | exact SH.bf_heard | exact SH.bf_landed | exact SH.bf_told | exact SH.bf_untold | exact SH.bf_unheard | exact SH.bf_present
  | exact SH.pf_shares | exact SH.pf_most | exact SH.pf_late | exact SH.pf_reserve
  | exact SH.sf_plan | exact SH.sf_now | exact SH.sf_boats | exact SH.sf_broken | exact SH.sf_beyond)
local macro_rules | `(tactic| walk_at "fp") => `(tactic| with_reducible first
  | exact SH.bq_right | exact SH.bq_heard | exact SH.bq_landed | exact SH.bq_told | exact SH.bq_present | exact SH.sq_now | exact SH.sq_broken)
local macro_rules | `(tactic| walk_at "fn") => `(tactic| kernel_rfl)
local macro_rules | `(tactic| walk_at "lt") => `(tactic| (rw [PySem.sizeLine_eq]; omega))
local macro_rules | `(tactic| walk_at "g2") => `(tactic| first
  | (with_reducible first | refine SH.br_ntt ?_ | refine SH.br_ntf ?_ | refine SH.br_k ?_ | refine SH.br_nk ?_ | refine SH.g_fldAug ?_ | refine SH.g_rAdd ?_ | refine SH.g_rSub ?_)
  | ((with_reducible refine SH.br_inF ?_ ?_); (· decide +kernel)) | ((with_reducible refine SH.br_inT ?_ ?_); (· decide +kernel))
  | ((with_reducible refine' SH.g_inT ?ga ?gb ?gc ?gz); (case ga => walk_at "sq"); (case gb => exact rfl); (case gc => kernel_rfl))
  | ((with_reducible refine' SH.g_stA ?ga ?gb ?gc ?gd ?ge ?gz); (case ga => walk_at "hp"); (case gb => walk_at "cl"); (case gc => walk_at "na"); (case gd => walk_at "fp"); (case ge => exact SH.szf rfl); intro _ _ _)
  | ((with_reducible refine' SH.g_augR ?ga ?gb ?gc ?gd ?gz); (case ga => walk_at "hp"); (case gb => walk_at "cl"); (case gc => walk_at "na"); (case gd => walk_at "fv"))
  | ((with_reducible refine' SH.g_putC ?ga ?gb ?gc ?gz); (case ga => walk_at "hp"); (case gb => walk_at "fp"); (case gc => exact SH.szf rfl); intro _ _ _)
  | ((with_reducible refine' SH.g_app' ?ga ?gb ?gz); (case ga => walk_at "hp"); (case gb => walk_at "lt"); intro _ _ _)
  | ((with_reducible refine' SH.g_popF ?ga ?gz); (case ga => walk_at "hp"); intro _ _ _)
  | ((with_reducible refine' SH.g_bml ?ga ?gz); (case ga => walk_at "sq"))
  | ((with_reducible refine' SH.g_isiSelf ?ga ?gb ?gc ?gz); (case ga => walk_at "hp"); (case gb => walk_at "cl"); (case gc => walk_at "cl")))
local macro_rules | `(tactic| walk_at "g2") => `(tactic|
  ((with_reducible refine' SH.g_ixL ?ga ?gb ?gz); (case ga => walk_at "sq"); (case gb => first | rfl | (apply SH.atI_refs; assumption) | exact SH.atI_cons0 | (apply SH.atI_bs; assumption))))
namespace SH
open PySem PySem.Spec PyProof.Rows L2
def crs (ss : List Int) (most late reserve : Int) : List Stp := courseTo (min (mx ss) ((2 * late + 1) * most)) most (mx ss) late reserve (ss.idxOf (mx ss)) (if ss.idxOf (mx ss) = 0 then 1 else 0) (2 * late.toNat + 1)
def spCrs (K : PySem.W.Frag) : Sp := fun vs H Q _ => ∃ (p sh : Addr) (ss : List Int) (most late reserve : Int), vs = [.ref p] ∧ PlanH K H p sh ss most late reserve ∧
  ∀ l H' vs, H l = none → H' l = some (.lst vs) → StepsAt K H' vs (crs ss most late reserve) → Off [] H H' → Q (.ref l) H'
theorem atI_get {xs : List V} {i : Int} {j : Nat} {v : V} (e : i = j) (h : xs[j]? = some v) : atI xs i = some v := by
  have hl := (List.getElem?_eq_some_iff.mp h).1
  subst e
  unfold atI ixN
  rw [if_pos (by omega), if_pos (by omega)]
  simp [h]
theorem idx_mx {ss : List Int} (h : 0 < ss.length) (h0 : ∀ y ∈ ss, 0 ≤ y) : ss.idxOf (mx ss) < ss.length ∧ ss[ss.idxOf (mx ss)]? = some (mx ss) := by
  have a := List.idxOf_lt_length_iff.mpr (mx_mem h h0)
  exact ⟨a, by rw [List.getElem?_eq_getElem a, List.getElem_idxOf a]⟩
def MidC (K : PySem.W.Frag) (H : Hp) (stp la : Addr) (lv : List V) (sts : List Stp) (n : Nat) (H' : Hp) : Prop := ∃ vs, H' stp = some (.lst vs) ∧ StepsAt K H' vs sts ∧ vs.length ≤ n ∧ H' la = some (.lst lv) ∧ Off [] H H'
section
variable {P : Program} {w : World} {K : PySem.W.Frag} {mg : Str → Option Value} {base : Heap}
theorem ok_course_of (T : Txt P w K mg) : DefOk P w K mg base "course_of" 2 ["plan"] (spCrs K) := by
  refine T.d_course_of.ok sc_course_of (fun _ _ _ _ _ _ us hl => match us, hl with | [_], _ => rfl) (fun vs H Q E h => ?_) (fun f cdv A outer s H vs Q E hr h => ?_)
  · obtain ⟨p, sh, ss, most, late, reserve, rfl, _⟩ := h
    rfl
  · obtain ⟨p, sh, ss, most, late, reserve, rfl, hp, q⟩ := h
    have B := T.blt
    have hu := hu_of hr
    have G_landings_of := ok_landings_of (base := base) T
    have cl_Plan := T.cl_Plan
    have is_Plan := T.is_Plan
    have na_Plan_shares := T.na_Plan_shares
    have na_Plan_late := T.na_Plan_late
    have na_Plan_reserve := T.na_Plan_reserve
    have cl_Boat := T.cl_Boat
    have is_Boat := T.is_Boat
    have cl_Season := T.cl_Season
    have is_Season := T.is_Season
    refine ⟨_, (pss_cons (ps_set (i := 1) sc_course_of.nd rfl (by first | exact Or.inl rfl | exact Or.inr rfl) (pe_tupIx (pe_fldK (K := K) rfl (pv 0) rfl) (pe_callB (cr_maxTK (K := K) rfl rfl) (by rfl) B.b_max (by decide +kernel) (pa_cons (pe_fldK (K := K) rfl (pv 0) rfl) pa_nil))))
  (pss_cons (ps_set (i := 2) sc_course_of.nd rfl (by first | exact Or.inl rfl | exact Or.inr rfl) (pe_ifExp (pt_cmpR op_eq (pv 1) pe_int (nomark _)) pe_int pe_int))
  (pss_cons (ps_par (i := 3) (j := 4) (by rfl) sc_course_of.nd rfl rfl (by decide) rfl rfl (pa_cons (pe_lst pa_nil) (pa_cons (pe_df G_landings_of (hr.mono (by decide)) (L2N.passes_call (L2N.takes_of rfl rfl rfl rfl) fun _ _ _ _ z => z) (pa_cons (pv 0) (pa_cons (pv 1) pa_nil))) pa_nil)) (by rfl))
  (pss_cons (ps_for (passes_of rfl) rfl (pi_enumK (K := K) rfl (by rfl) B.b_enumerate (pa_cons (pv 4) pa_nil)) (pg_tupK (K := K) (n := 2) rfl rfl (pgs_cons (pg_name (i := 5) sc_course_of.nd rfl (by first | exact Or.inl rfl | exact Or.inr rfl)) (pgs_cons (pg_name (i := 6) sc_course_of.nd rfl (by first | exact Or.inl rfl | exact Or.inr rfl)) pgs_nil)))
    (pss_cut (ps_if (pt_cmpR op_gt (pv 6) pe_int (nomark _))
    (pss_one (ps_expr (pe_bmK (K := K) rfl PySem.F.plainAttrs_list PySem.F.slot_list_append PySem.F.type_list_append mt_append (pv 3) (pa_cons (pe_tup (pa_cons pe_str (pa_cons (pv 1) (pa_cons (pv 6) pa_nil)))) pa_nil))))
    pss_nil)
  (pss_cut (ps_if (pt_cmpR op_eq (pv 5) (pe_fldK (K := K) rfl (pv 0) rfl) (nomark _))
    (pss_one (ps_expr (pe_bmK (K := K) rfl PySem.F.plainAttrs_list PySem.F.slot_list_append PySem.F.type_list_append mt_append (pv 3) (pa_cons (pe_tup (pa_cons pe_str (pa_cons (pv 1) (pa_cons (pv 2) (pa_cons (pe_op op_sub (pe_ix (ix_tupK (K := K) rfl) (pe_fldK (K := K) rfl (pv 0) rfl) (pv 1) (fun _ _ => rfl)) (pe_fldK (K := K) rfl (pv 0) rfl)) pa_nil))))) pa_nil))))
    pss_nil)
  (pss_cut (ps_if (PW.pt (pw_and (pt_cmpR op_ge (pv 5) (pe_fldK (K := K) rfl (pv 0) rfl) (nomark _)) (pw_and1 (pt_cmpR op_gt (pe_ix (ix_listK (K := K) rfl) (pv 4) (pe_op op_sub (pv 5) (pe_fldK (K := K) rfl (pv 0) rfl)) (fun _ _ => rfl)) pe_int (nomark _)))))
    (pss_one (ps_expr (pe_bmK (K := K) rfl PySem.F.plainAttrs_list PySem.F.slot_list_append PySem.F.type_list_append mt_append (pv 3) (pa_cons (pe_tup (pa_cons pe_str (pa_cons (pv 1) pa_nil))) pa_nil))))
    pss_nil)
  (pss_one (ps_if (pt_cmpR op_lt (pv 5) (pe_op op_mul pe_int (pe_fldK (K := K) rfl (pv 0) rfl)) (nomark _))
    (pss_one (ps_expr (pe_bmK (K := K) rfl PySem.F.plainAttrs_list PySem.F.slot_list_append PySem.F.type_list_append mt_append (pv 3) (pa_cons (pe_tup (pa_cons pe_str pa_nil)) pa_nil))))
    pss_nil))))))
  (pss_one (ps_ret (pv 3))))))), ?_⟩
    obtain ⟨dx, h1⟩ := hp.at_
    have hs := hp.sh_.sq (K := K)
    have hok := hp.ok
    have m0 := hok.m0
    have m1 := hok.m1
    have l0 := hok.l0
    have l1 := hok.l1
    have n0 := hok.n0
    have s0 : ∀ y ∈ ss, 0 ≤ y := fun y hy => (hok.s0 y hy).1
    obtain ⟨ib, ix⟩ := idx_mx n0 s0
    walk_at "go"
    refine g_tupIx ?_
    walk_at "go"
    refine g_tupIx1 hp.sh_ ?_
    walk_at "go"
    refine ⟨sh, ss, rfl, hs, by omega, fun m hm hx => ?_⟩
    have e2 := mx_of s0 hm hx
    subst e2
    refine g_tupIx2 hp.sh_ hm ?_
    walk_at "go"
    generalize hS : mx ss = S at *
    generalize hB : ss.idxOf S = b at *
    refine br_int ?_
    have eo : (if (b : Int) = 0 then (1 : Int) else 0) = (((if b = 0 then 1 else 0 : Nat) : Nat) : Int) := by
      by_cases c : b = 0
      · rw [if_pos (by omega), if_pos c]; rfl
      · rw [if_neg (by omega), if_neg c]; rfl
    rw [eo]
    generalize hO : (if b = 0 then 1 else 0) = o at *
    walk_at "go"
    rename_i stp hst
    have nps : p ≠ stp := ne_of_none h1 hst
    have ol : Off [] H (upd H stp (.lst [])) := .new hst
    refine ⟨p, sh, ss, most, late, reserve, b, S, rfl, hp.off ol (by simp), ix, fun la H2 hla ela o2 => ?_⟩
    generalize ht : min S ((2 * late + 1) * most) = tot at *
    have nls : la ≠ stp := fun z => by rw [z, upd_same] at hla; cases hla
    have hla' := (upd_back hla).1
    have i2 := ol.trans o2
    have q2 : H2 stp = _ := o2.at nin_nil upd_same
    walk_at "go"
    refine g_enL ?_
    walk_at "go"
    refine enL_mk (fun i σ H3 => ∃ t x vs, σ = [some (.ref p), some (.int (b : Int)), some (.int (o : Int)), some (.ref stp), some (.ref la), t, x] ∧ H3 stp = some (.lst vs) ∧ StepsAt K H3 vs (courseTo tot most S late reserve b o i) ∧ H3 la = _ ∧ Off [] H H3)
      (.of ela) ⟨none, none, [], rfl, q2, .nil, ela, i2⟩ (fun i σ H3 hi hP => ?_) (fun i x T σ H3 hx hP hT => ?_) (fun σ H3 hP => ?_)
    · obtain ⟨_, _, _, _, _, _, e, _⟩ := hP
      exact .of e
    · obtain ⟨t, y, vs, rfl, w1, w2, w3, w4⟩ := hP
      have il : i < 2 * late.toNat + 1 := by
        have := (List.getElem?_eq_some_iff.mp hx).1
        simpa using this
      have ex : x = .int (lnd tot most i) := by
        rw [List.getElem?_map, List.getElem?_range il] at hx
        exact (Option.some.inj hx).symm
      subst ex
      have vl : vs.length ≤ 4 * i := by
        rw [Paired.length w2]
        exact steps_len i
      have oT : Off [] H3 (upd H3 T (.tup [.int ((i : Nat) : Int), .int (lnd tot most i)])) := .new hT
      have w1' := oT.at nin_nil w1
      have w2' := StepsAt.off w2 oT
      have w3' := oT.at nin_nil w3
      have w4' := w4.trans oT
      walk_at "go"
      generalize upd H3 T (.tup [.int ((i : Nat) : Int), .int (lnd tot most i)]) = H4 at *
      generalize hlv : (List.range (2 * late.toNat + 1)).map (fun t => V.int (lnd tot most t)) = lv at *
      have h0 : MidC K H stp la lv (courseTo tot most S late reserve b o i) (4 * i) H4 := ⟨vs, w1', w2', vl, w3', w4'⟩
      clear w1 w1' w2 w2' w3 w3' w4 w4' oT ela o2 ol i2
      have lt4 : 4 * i < 1000 := by omega
      refine g_cut (fun σ' H' => σ' = [some (.ref p), some (.int (b : Int)), some (.int (o : Int)), some (.ref stp), some (.ref la), some (.int ((i : Nat) : Int)), some (.int (lnd tot most i))] ∧ MidC K H stp la lv (courseTo tot most S late reserve b o i ++ (if 0 < lnd tot most i then [.land b (lnd tot most i)] else [])) (4 * i + 1) H') ?_ ?_
      · obtain ⟨vs, u1, u2, u3, u4, u5⟩ := h0
        have j1 := u5.at nin_nil h1
        walk_at "go"
        refine br_d (fun c => ?_) (fun c => ?_)
        · skip
          walk_at "go"
          rename_i p1 hp1 H6 e6 o6
          refine ⟨rfl, ?_⟩; exact ⟨_, e6, by rw [if_pos c]; exact StepsAt.app (st := .land b (lnd tot most i)) u2 hp1 o6, by rw [List.length_append, List.length_singleton]; omega, o6.at (by simpa using nls) (upd_new u4 hp1), (u5.new2 hp1).mutA o6 hst⟩
        · walk_at "go"
          refine ⟨rfl, ?_⟩; exact ⟨vs, u1, by rw [if_neg c]; rw [List.append_nil]; exact u2, by omega, u4, u5⟩
      rintro σ' H5 ⟨rfl, h1m⟩
      refine g_cut (fun σ' H' => σ' = [some (.ref p), some (.int (b : Int)), some (.int (o : Int)), some (.ref stp), some (.ref la), some (.int ((i : Nat) : Int)), some (.int (lnd tot most i))] ∧ MidC K H stp la lv (courseTo tot most S late reserve b o i ++ (if 0 < lnd tot most i then [.land b (lnd tot most i)] else []) ++ (if (i : Int) = late then [.trade b o (S - reserve)] else [])) (4 * i + 2) H') ?_ ?_
      · obtain ⟨vs, u1, u2, u3, u4, u5⟩ := h1m
        have j1 := u5.at nin_nil h1
        walk_at "go"
        refine br_d (fun c => ?_) (fun c => ?_)
        · skip
          walk_at "go"
          refine g_ixT (hp.sh_.off u5).sq (v := .int S) (by exact atI_ints ix) ?_
          walk_at "go"
          rename_i p1 hp1 H6 e6 o6
          refine ⟨rfl, ?_⟩; exact ⟨_, e6, by rw [if_pos c]; exact StepsAt.app (st := .trade b o (S - reserve)) u2 hp1 o6, by rw [List.length_append, List.length_singleton]; omega, o6.at (by simpa using nls) (upd_new u4 hp1), (u5.new2 hp1).mutA o6 hst⟩
        · walk_at "go"
          refine ⟨rfl, ?_⟩; exact ⟨vs, u1, by rw [if_neg c]; rw [List.append_nil]; exact u2, by omega, u4, u5⟩
      rintro σ' H5 ⟨rfl, h2m⟩
      refine g_cut (fun σ' H' => σ' = [some (.ref p), some (.int (b : Int)), some (.int (o : Int)), some (.ref stp), some (.ref la), some (.int ((i : Nat) : Int)), some (.int (lnd tot most i))] ∧ MidC K H stp la lv (courseTo tot most S late reserve b o i ++ (if 0 < lnd tot most i then [.land b (lnd tot most i)] else []) ++ (if (i : Int) = late then [.trade b o (S - reserve)] else []) ++ (if late ≤ i ∧ 0 < lnd tot most (i - late.toNat) then [.tell b] else [])) (4 * i + 3) H') ?_ ?_
      · obtain ⟨vs, u1, u2, u3, u4, u5⟩ := h2m
        have j1 := u5.at nin_nil h1
        walk_at "go"
        refine br_d (fun c => ?_) (fun c => ?_)
        · walk_at "go"
          have eg : lv[i - late.toNat]? = some (.int (lnd tot most (i - late.toNat))) := by
            rw [← hlv, List.getElem?_map, List.getElem?_range (by omega)]; rfl
          refine g_ixL (.of u4) (atI_get (j := i - late.toNat) (by omega) eg) ?_
          walk_at "go"
          refine br_d (fun c2 => ?_) (fun c2 => ?_)
          · walk_at "go"
            rename_i p1 hp1 H6 e6 o6
            refine ⟨rfl, ?_⟩
            exact ⟨_, e6, by rw [if_pos (show late ≤ (i : Int) ∧ 0 < lnd tot most (i - late.toNat) from ⟨c, c2⟩)]; exact StepsAt.app (st := .tell b) u2 hp1 o6, by rw [List.length_append, List.length_singleton]; omega, o6.at (by simpa using nls) (upd_new u4 hp1), (u5.new2 hp1).mutA o6 hst⟩
          · walk_at "go"
            refine ⟨rfl, ?_⟩
            exact ⟨vs, u1, by rw [if_neg (show ¬ (late ≤ (i : Int) ∧ 0 < lnd tot most (i - late.toNat)) from fun z => c2 z.2), List.append_nil]; exact u2, by omega, u4, u5⟩
        · walk_at "go"
          refine ⟨rfl, ?_⟩
          exact ⟨vs, u1, by rw [if_neg (show ¬ (late ≤ (i : Int) ∧ 0 < lnd tot most (i - late.toNat)) from fun z => c z.1), List.append_nil]; exact u2, by omega, u4, u5⟩
      rintro σ' H5 ⟨rfl, h3m⟩
      have eq : courseTo tot most S late reserve b o (i + 1) = courseTo tot most S late reserve b o i ++ (if 0 < lnd tot most i then [.land b (lnd tot most i)] else []) ++ (if (i : Int) = late then [.trade b o (S - reserve)] else []) ++ (if late ≤ i ∧ 0 < lnd tot most (i - late.toNat) then [.tell b] else []) ++ (if (i : Int) < 2 * late then [.tick] else []) := by
        rw [courseTo_succ]
        unfold stepsAt
        simp only [List.append_assoc]
      rw [eq]
      generalize courseTo tot most S late reserve b o i ++ (if 0 < lnd tot most i then [.land b (lnd tot most i)] else []) ++ (if (i : Int) = late then [.trade b o (S - reserve)] else []) ++ (if late ≤ i ∧ 0 < lnd tot most (i - late.toNat) then [.tell b] else []) = pre at *
      obtain ⟨vs, u1, u2, u3, u4, u5⟩ := h3m
      have j1 := u5.at nin_nil h1
      walk_at "go"
      refine br_d (fun c => ?_) (fun c => ?_)
      · walk_at "go"
        rename_i p1 hp1 H6 e6 o6
        exact ⟨_, _, _, rfl, e6, by rw [if_pos c]; exact StepsAt.app (st := .tick) u2 hp1 o6, o6.at (by simpa using nls) (upd_new u4 hp1), (u5.new2 hp1).mutA o6 hst⟩
      · walk_at "go"
        exact ⟨_, _, _, rfl, u1, by rw [if_neg c, List.append_nil]; exact u2, u4, u5⟩
    · obtain ⟨t, x, vs, rfl, w1, w2, w3, w4⟩ := hP
      rw [List.length_map, List.length_range] at w2
      walk_at "go"
      refine q stp H3 vs hst w1 ?_ w4
      unfold crs
      rw [hS, hB, hO, ht]
      exact w2
def spCagV (K : PySem.W.Frag) : Sp := fun vs H Q _ => ∃ (p sh : Addr) (ss : List Int) (most late reserve : Int), vs = [.ref p] ∧ PlanH K H p sh ss most late reserve ∧
  (needI ss most late ≤ reserve → Q .non H) ∧ (¬ needI ss most late ≤ reserve → ∀ l H' vs, H' l = some (.tup vs) → StepsAt K H' vs (crs ss most late reserve) → Off [] H H' → Q (.ref l) H')
def spCag (K : PySem.W.Frag) : Sp := fun vs H Q E => spCagV K vs H Q E ∨ OddP K vs H E
theorem okL_course_against (T : Txt P w K mg) : DefL P w K mg base "course_against" 4 ["plan"] (spCag K) := by
  refine T.d_course_against.okL sc_course_against (fun _ _ _ _ _ _ us hl => match us, hl with | [_], _ => rfl) (fun vs H Q E h => ?_) (fun f cdv A outer s H vs Q E hr h => ?_)
  · rcases h with ⟨p, sh, ss, most, late, reserve, rfl, _⟩ | ⟨v, kd, rfl, _⟩ <;> rfl
  · have B := T.blt
    have hu := hu_of hr
    have G_is_safe := ok_is_safe (base := base) T
    have G_course_of := ok_course_of (base := base) T
    refine ⟨_, (pss_cons (ps_if (pt_val (pe_df G_is_safe (hr.mono (by decide)) (L2N.passes_call (L2N.takes_of rfl rfl rfl rfl) fun _ _ _ _ z => z) (pa_cons (pv 0) pa_nil)) (by intro _; rfl))
    (pss_one (ps_ret pe_non))
    pss_nil)
  (pss_one (ps_ret (pe_callTy (c_tupK (K := K) rfl) (by rfl) B.b_tuple (by decide +kernel) (pa_cons (pe_df G_course_of (hr.mono (by decide)) (L2N.passes_call (L2N.takes_of rfl rfl rfl rfl) fun _ _ _ _ z => z) (pa_cons (pv 0) pa_nil)) pa_nil))))), ?_⟩
    rcases h with ⟨p, sh, ss, most, late, reserve, rfl, hp, q1, q2⟩ | ⟨v, kd, rfl, hk, q⟩
    rotate_left 1
    · walk_at "go"
      exact .inr ⟨v, kd, rfl, hk, fun d hd => q d hd⟩
    walk_at "go"
    refine .inl ⟨p, sh, ss, most, late, reserve, rfl, hp, ?_⟩
    walk_at "go"
    refine br_d (fun c => ?_) (fun c => ?_)
    · walk_at "go"
      exact q1 c
    · walk_at "go"
      refine ⟨p, sh, ss, most, late, reserve, rfl, hp, fun l H1 vs hl e1 st o1 => ?_⟩
      walk_at "go"
      rename_i t ht
      have o2 : Off [] H1 (upd H1 t (.tup vs)) := .new ht
      exact q2 c t _ vs upd_same (st.off o2) (o1.trans o2)
theorem ok_course_against (T : Txt P w K mg) : DefOk P w K mg base "course_against" 4 ["plan"] (spCag K) := (okL_course_against T).ok
end
end SH
end

section
/-! #### the walk's words -/
local macro_rules | `(tactic| walk_at "ne0") => `(tactic| first
  | assumption
  | (refine Ne.symm ?_; assumption))
local macro_rules | `(tactic| walk_at "ne") => `(tactic| first
  | assumption
  | (refine Ne.symm ?_; assumption)
  | (refine' L2.ne_of_none ?gx (by assumption); (case gx => walk_at "hp"))
  | (refine' Ne.symm (L2.ne_of_none ?gx (by assumption)); (case gx => walk_at "hp")))
local macro_rules | `(tactic| walk_at "hp") => `(tactic| first
  | assumption
  | exact L2.upd_same
  | (refine' SH.upd_new ?gh (by assumption); (case gh => walk_at "hp"))
  | (refine' (L2.upd_ne ?gn).trans ?gh; (case gn => walk_at "ne0"); (case gh => walk_at "hp"))
  | (refine' SH.Off.at (by assumption) ?gn ?gh; (case gn => walk_at "nin"); (case gh => walk_at "hp")))
local macro_rules | `(tactic| walk_at "nin") => `(tactic| first
  | exact SH.nin_nil
  | (refine SH.nin_cons ?_ ?_; (· walk_at "ne0"); (· walk_at "nin")))
local macro_rules | `(tactic| walk_at "sq") => `(tactic| first
  | assumption
  | (apply L2.SqL.of; (· walk_at "hp"))
  | (apply L2.SqT.of; (· walk_at "hp"))
  | (refine' SH.seqT_new ?gx (by assumption); (case gx => walk_at "sq"))
  | (refine' SH.seqL_new ?gx (by assumption); (case gx => walk_at "sq"))
  | (refine' SH.Off.seqT (by assumption) ?gx; (case gx => walk_at "sq"))
  | (refine' SH.Off.seqL (by assumption) ?gy ?gx; (case gx => walk_at "sq"); (case gy => walk_at "nin")))
local macro_rules | `(tactic| walk_at "kd") => `(tactic| first
  | assumption | exact SH.KdV.int _ | exact SH.KdV.bl _ | exact SH.KdV.str _ | exact SH.KdV.non
  | (apply SH.KdV.tup; (· walk_at "sq")) | (apply SH.KdV.lst; (· walk_at "sq")))
/-- a way that cannot be -/
local macro_rules | `(tactic| walk_at "no") => `(tactic| (exfalso; first | assumption | omega | contradiction | (simp_all; done)))
/-- one step -/
local macro_rules | `(tactic| walk_at "g1") => `(tactic| with_reducible first
  | refine SH.g_var (by with_unfolding_all rfl) ?_ | refine SH.g_c ?_ | refine SH.g_op ?_ | refine SH.g_un ?_ | refine SH.g_I0 ?_ | refine SH.g_U ?_
  | refine SH.g_eqI ?_ | refine SH.g_neI ?_ | refine SH.g_eqS ?_ | refine SH.g_neS ?_
  | refine SH.g_test ?_ | refine SH.g_B ?_ | refine SH.g_isB ?_ | refine SH.g_and ?_ | refine SH.g_or ?_ | refine SH.g_not ?_ | refine SH.g_andV ?_ | refine SH.g_orV ?_ | refine SH.g_notV ?_ | refine SH.g_ifE ?_ | refine SH.g_chain ?_
  | refine SH.g_nil ?_ | refine SH.g_cons ?_ | refine SH.g_tup ?_ | refine SH.g_lst ?_ | refine SH.g_call ?_ | refine SH.g_fld ?_ | refine SH.g_meth ?_ | refine SH.g_make ?_ | refine SH.g_cb ?_ | refine SH.g_bm ?_
  | refine SH.g_seq ?_ | refine SH.g_asg ?_ | refine SH.g_name ?_ | refine SH.g_drop ?_ | refine SH.g_ret ?_ | refine SH.g_retN ?_ | refine SH.g_next ?_ | refine SH.g_brk ?_ | refine SH.g_cnt ?_ | refine SH.g_ifs ?_ | refine SH.g_par ?_ | refine SH.g_par2 ?_ | refine SH.g_fldS ?_ | refine SH.g_raise ?_ | refine SH.g_rs ?_
  | refine SH.g_sub ?_ | refine SH.g_yes ?_ | refine SH.g_sl ?_ | refine SH.g_noPart ?_ | refine SH.g_part ?_ | refine SH.g_intO ?_ | refine SH.g_dget ?_ | refine SH.g_dput ?_ | refine SH.g_forR ?_ | refine SH.g_forL ?_ | refine SH.g_forT ?_ | refine SH.g_lcR ?_ | refine SH.g_lcL ?_ | refine SH.g_lcT ?_ | refine SH.g_gcons ?_ | refine SH.g_gnil ?_
  | refine SH.br_t ?_ | refine SH.br_f ?_
  | refine SH.g_int ?_ | refine SH.g_abs ?_ | refine SH.g_max2 ?_ | refine SH.g_min2 ?_)
local macro_rules | `(tactic| walk_at "g2") => `(tactic| first
  | walk_at "g1"
  | ((with_reducible refine' SH.g_isiInt ?ga ?gz); (case ga => walk_at "kd"))
  | ((with_reducible refine' SH.g_isiBool ?ga ?gz); (case ga => walk_at "kd"))
  | ((with_reducible refine' SH.g_isiStr ?ga ?gz); (case ga => walk_at "kd"))
  | ((with_reducible refine' SH.g_isiTup ?ga ?gz); (case ga => walk_at "kd"))
  | ((with_reducible refine' SH.g_ixT ?ga ?gb ?gz); (case ga => walk_at "sq"); (case gb => rfl))
  | ((with_reducible refine' SH.g_ixL ?ga ?gb ?gz); (case ga => walk_at "sq"); (case gb => first | rfl | (apply SH.atI_refs; assumption)))
  | ((with_reducible refine SH.br_F ?_ ?_); (· decide +kernel)) | ((with_reducible refine SH.br_T ?_ ?_); (· decide +kernel)) | ((with_reducible refine SH.br_NF ?_ ?_); (· decide +kernel)) | ((with_reducible refine SH.br_NT ?_ ?_); (· decide +kernel))
  | ((with_reducible refine' SH.g_gtup ?ga ?gb ?gz); (case ga => walk_at "sq"); (case gb => rfl))
  | ((with_reducible refine' SH.g_lenT ?ga ?gz); (case ga => walk_at "sq"))
  | ((with_reducible refine' SH.g_lenL ?ga ?gz); (case ga => walk_at "sq"))
  | ((with_reducible refine SH.g_mkT (SH.sz rfl) ?_); intro _ _)
  | ((with_reducible refine SH.g_mkL (SH.sz rfl) ?_); intro _ _)
  | ((with_reducible refine SH.g_dnew ?_); intro _ _)
  | ((with_reducible refine' SH.g_tupL ?ga ?gz); (case ga => walk_at "sq"); intro _ _)
  | ((with_reducible refine' SH.g_lstL ?ga ?gz); (case ga => walk_at "sq"); intro _ _)
  | ((with_reducible refine' SH.g_lstT ?ga ?gz); (case ga => walk_at "sq"); intro _ _)
  | ((with_reducible refine' SH.g_dgR ?ga ?gb ?gz); (case ga => walk_at "hp"); (case gb => walk_at "dv"))
  | ((with_reducible refine' SH.g_fldR ?ga ?gb ?gc ?gd ?gz); (case ga => walk_at "hp"); (case gb => walk_at "cl"); (case gc => walk_at "na"); (case gd => walk_at "fv"))
  | ((with_reducible refine' SH.g_insR ?ga ?gb ?gz); (case ga => walk_at "hp"); (case gb => walk_at "fn"))
  | ((with_reducible refine' SH.g_setL ?ga ?gb ?gz); (case ga => walk_at "hp"); (case gb => rfl))
  | ((with_reducible refine SH.g_I ?_ ?_); (· walk_at "ci"))
  | ((with_reducible refine' SH.g_slL ?ga ?gz); (case ga => walk_at "sq"); intro _ _)
  | ((with_reducible refine' SH.g_cat ?ga ?gb ?gc ?gz); (case ga => walk_at "hp"); (case gb => walk_at "hp"); (case gc => walk_at "ls"); intro _ _))
/-- the side conditions of numbers: a divisor, a factor -/
local macro_rules | `(tactic| walk_at "ci") => `(tactic| first
  | (show _ ≠ _; omega) | (show _ < _; omega) | (constructor <;> omega) | (refine Or.inr ⟨?_, ?_⟩ <;> (show _ < _; omega)) | (refine Or.inl ⟨?_, ?_⟩ <;> (show _ < _; omega)) | (refine ⟨?_, ?_, ?_⟩ <;> decide))
local macro_rules | `(tactic| walk_at "ls") => `(tactic| first | (show _ ≤ _; exact Nat.le_trans (by assumption) (by decide)) | (show _ ≤ _; exact Nat.le_trans (by simp; omega) (by decide : 1000 ≤ sizeLine)))
local macro_rules | `(tactic| walk_at "dv") => `(tactic| rfl)
local macro_rules | `(tactic| walk_at "fv") => `(tactic| rfl)
local macro_rules | `(tactic| walk_at "fn") => `(tactic| rfl)
local macro_rules | `(tactic| walk_at "cl") => `(tactic| assumption)
local macro_rules | `(tactic| walk_at "na") => `(tactic| assumption)
local macro_rules | `(tactic| walk_at "go") => `(tactic| repeat walk_at "g2")
/-- a way is split -/
local macro_rules | `(tactic| walk_at "br") => `(tactic| with_reducible first
  | refine SH.br_d (fun _ => ?_) (fun _ => ?_) | refine SH.br_nd (fun _ => ?_) (fun _ => ?_) | refine SH.br_b (fun _ => ?_) (fun _ => ?_))
/-- all ways -/
local macro_rules | `(tactic| walk_at "all") => `(tactic| repeat' first | walk_at "g2" | (walk_at "br" <;> try (walk_at "no")))
/-- a truth value is the other -/
local macro_rules | `(tactic| walk_at "bq") => `(tactic| first | rfl | (simp_all; done) | (simp_all; omega) | (simp only [decide_eq_true_eq, decide_eq_false_iff_not, Bool.and_eq_true, Bool.or_eq_true] at *; omega))
/-- what was tracked is as it was -/
local macro_rules | `(tactic| walk_at "of") => `(tactic| first
  | assumption
  | exact SH.Off.refl _ _
  | (refine' SH.Off.new2 ?gx (by assumption); (case gx => walk_at "of"))
  | (refine' SH.Off.mut ?gx (by assumption); (case gx => walk_at "of"))
  | (refine' SH.Off.trans' ?gx (by assumption) ?gy; (case gy => (intro _ h; (first | exact h | (simp at h; done) | (simp at h ⊢; simp [h]; done)))); (case gx => walk_at "of")))
/-- the own season's dicts -/
local macro_rules | `(tactic| walk_at "dv") => `(tactic| with_reducible first
  | exact SH.bk_right | exact SH.bk_heard | exact SH.bk_landed | exact SH.bk_told | exact SH.bk_untold | exact SH.bk_unheard | exact SH.bk_present
  | exact SH.ok_own | exact SH.ok_now | exact SH.ok_boats | exact SH.ok_broken | exact SH.ok_beyond)
local macro_rules | `(tactic| walk_at "dw") => `(tactic| with_reducible first
  | exact SH.bp_right | exact SH.bp_heard | exact SH.bp_landed | exact SH.bp_told | exact SH.bp_untold | exact SH.bp_unheard | exact SH.bp_present
  | exact SH.op_now | exact SH.op_broken | exact SH.op_beyond)
local macro_rules | `(tactic| walk_at "g2") => `(tactic|
  ((with_reducible refine' SH.g_dpA ?ga ?gb ?gc ?gz); (case ga => walk_at "hp"); (case gb => walk_at "dw"); (case gc => exact SH.szk rfl); intro _ _ _))
local macro_rules | `(tactic| walk_at "sq") => `(tactic|
  ((refine' SH.seqT_put ?gx ?gy ?gz); (case gy => walk_at "hp"); (case gz => exact trivial); (case gx => walk_at "sq")))
local macro_rules | `(tactic| walk_at "g2") => `(tactic|
  ((with_reducible refine' SH.g_ixL ?ga ?gb ?gz); (case ga => walk_at "sq"); (case gb => first | rfl | (apply SH.atI_refs; assumption) | exact SH.atI_cons0)))
/-- the package's season: its instances -/
local macro_rules | `(tactic| walk_at "fv") => `(tactic| with_reducible first
  | exact SH.bf_right | exact SH.bf_heard | exact SH.bf_landed | exact SH.bf_told | exact SH.bf_untold | exact SH.bf_unheard | exact SH.bf_present
  | exact SH.pf_shares | exact SH.pf_most | exact SH.pf_late | exact SH.pf_reserve
  | exact SH.sf_plan | exact SH.sf_now | exact SH.sf_boats | exact SH.sf_broken | exact SH.sf_beyond)
local macro_rules | `(tactic| walk_at "fp") => `(tactic| with_reducible first
  | exact SH.bq_right | exact SH.bq_heard | exact SH.bq_landed | exact SH.bq_told | exact SH.bq_present | exact SH.sq_now | exact SH.sq_broken)
local macro_rules | `(tactic| walk_at "fn") => `(tactic| kernel_rfl)
local macro_rules | `(tactic| walk_at "lt") => `(tactic| (rw [PySem.sizeLine_eq]; omega))
local macro_rules | `(tactic| walk_at "g2") => `(tactic| first
  | (with_reducible first | refine SH.br_ntt ?_ | refine SH.br_ntf ?_ | refine SH.br_k ?_ | refine SH.br_nk ?_ | refine SH.g_fldAug ?_ | refine SH.g_rAdd ?_ | refine SH.g_rSub ?_)
  | ((with_reducible refine SH.br_inF ?_ ?_); (· decide +kernel)) | ((with_reducible refine SH.br_inT ?_ ?_); (· decide +kernel))
  | ((with_reducible refine' SH.g_inT ?ga ?gb ?gc ?gz); (case ga => walk_at "sq"); (case gb => exact rfl); (case gc => kernel_rfl))
  | ((with_reducible refine' SH.g_stA ?ga ?gb ?gc ?gd ?ge ?gz); (case ga => walk_at "hp"); (case gb => walk_at "cl"); (case gc => walk_at "na"); (case gd => walk_at "fp"); (case ge => exact SH.szf rfl); intro _ _ _)
  | ((with_reducible refine' SH.g_augR ?ga ?gb ?gc ?gd ?gz); (case ga => walk_at "hp"); (case gb => walk_at "cl"); (case gc => walk_at "na"); (case gd => walk_at "fv"))
  | ((with_reducible refine' SH.g_putC ?ga ?gb ?gc ?gz); (case ga => walk_at "hp"); (case gb => walk_at "fp"); (case gc => exact SH.szf rfl); intro _ _ _)
  | ((with_reducible refine' SH.g_app' ?ga ?gb ?gz); (case ga => walk_at "hp"); (case gb => walk_at "lt"); intro _ _ _)
  | ((with_reducible refine' SH.g_popF ?ga ?gz); (case ga => walk_at "hp"); intro _ _ _)
  | ((with_reducible refine' SH.g_bml ?ga ?gz); (case ga => walk_at "sq"))
  | ((with_reducible refine' SH.g_isiSelf ?ga ?gb ?gc ?gz); (case ga => walk_at "hp"); (case gb => walk_at "cl"); (case gc => walk_at "cl")))
local macro_rules | `(tactic| walk_at "g2") => `(tactic|
  ((with_reducible refine' SH.g_ixL ?ga ?gb ?gz); (case ga => walk_at "sq"); (case gb => first | rfl | (apply SH.atI_refs; assumption) | exact SH.atI_cons0 | (apply SH.atI_bs; assumption))))
namespace SH
open PySem PySem.Spec PyProof.Rows L2
local macro_rules | `(tactic| walk_at "g2") => `(tactic| with_reducible first | refine SH.g_enT ?_ | refine SH.g_enL ?_ | refine SH.g_tryX ?_ | refine SH.g_tryOC ?_ | refine SH.g_methS ?_ | refine SH.g_callS ?_ | refine SH.g_raise5 ?_)
section
variable {P : Program} {w : World} {K : PySem.W.Frag} {mg : Str → Option Value} {base : Heap}
def spLedX (K : PySem.W.Frag) : Sp := fun vs H Q E => ∃ (p sh : Addr) (ss : List Int) (most late reserve : Int) (v : V), vs = [.ref p, v] ∧ PlanH K H p sh ss most late reserve ∧
  ((∃ kd, KdV K H v kd ∧ kd ≠ .tup ∧ Q .non H) ∨ (∃ t xs, v = .ref t ∧ SqT K H t xs ∧ ¬ (xs.length : Int) ≤ 5000 ∧ Q .non H) ∨ ∃ (t : Addr) (xs : List V) (its : List (Option Stp)) (B : List Addr), v = .ref t ∧ Crse K H B ss.length t xs its ∧ p ∈ B ∧ xs.length ≤ 5000 ∧
    (∀ z, (Sea.new ss most late reserve).plays its = some z → ∀ H' k, k.p = p → PkAt K H' k z → PlanH K H' p k.sh ss most late reserve → Off [p] H H' → Q (.ref k.q) H') ∧
    ((Sea.new ss most late reserve).plays its = none → ∀ H' sh', PlanH K H' p sh' ss most late reserve → Off [p] H H' → Q .non H'))
theorem ok_led (T : Txt P w K mg) : DefOk P w K mg base "led" 7 ["plan", "steps"] (spLedX K) := by
  refine T.d_led.ok sc_led (fun _ _ _ _ _ _ us hl => match us, hl with | [_, _], _ => rfl) (fun vs H Q E h => ?_) (fun f cdv A outer s H vs Q E hr h => ?_)
  · obtain ⟨p, sh, ss, most, late, reserve, v, rfl, _⟩ := h
    rfl
  · obtain ⟨p, sh, ss, most, late, reserve, v, rfl, hp, h⟩ := h
    have B := T.blt
    have hu := hu_of hr
    have G_are_steps := ok_are_steps (base := base) T
    have G_play := ok_play (base := base) T
    refine ⟨_, (pss_cons (ps_if (pt_not (pt_val (pe_df G_are_steps (hr.mono (by decide)) (L2N.passes_call (L2N.takes_of rfl rfl rfl rfl) fun _ _ _ _ z => z) (pa_cons (pv 1) pa_nil)) (by intro _; rfl)))
    (pss_one (ps_ret pe_non))
    pss_nil)
  (pss_one (ps_tryOnlyC (K := K) rfl rfl rfl ⟨rfl, by decide, .inl T.g_Stopped⟩ SH.takes00 (fun W pn xe tk _ => (pss_one (ps_ret (pe_dfCS G_play (hr.mono (by decide)) tk (pa_cons (pv 0) (pa_cons (pv 1) pa_nil)))))) (fun a oe cls d pn _ _ => (pss_one (ps_ret pe_non)))))), ?_⟩
    rcases h with ⟨kd, hk, nk, q⟩ | ⟨t, xs, rfl, ht, hlen, q⟩ | ⟨t, xs, its, B, rfl, hc, hpB, hlen, q1, q2⟩
    · walk_at "go"
      refine .inr ⟨v, kd, rfl, hk, nk, ?_⟩
      walk_at "go"
      exact q
    · walk_at "go"
      refine .inl ⟨t, xs, rfl, ht, ?_⟩
      walk_at "go"
      rw [decide_eq_false hlen]
      walk_at "go"
      exact q
    · walk_at "go"
      refine .inl ⟨t, xs, rfl, hc.at_, ?_⟩
      walk_at "go"
      rw [decide_eq_true (show (xs.length : Int) ≤ 5000 by omega)]
      walk_at "go"
      refine ⟨p, sh, ss, most, late, reserve, t, xs, its, B, rfl, hp, hc, hpB, hlen, fun z hz H1 k ek pk ph o1 => q1 z hz H1 k ek pk ph o1, fun hn H1 sh' ph o1 d hd => ?_⟩
      refine g_only1 T.xr_Stopped_Stopped.ex fun a ha => ?_
      walk_at "go"
      exact q2 hn _ sh' (ph.off (S := []) (.new hd) (by simp)) (o1.new2 hd)
def verd (s : Sea) (its : List (Option Stp)) : Bool := match s.plays its with
  | some z => z.broken && !z.bl && !z.bm
  | none => false
theorem bey_nil (bl bm : Bool) : PyData.eqv (.tuple ((beyL bl bm).map PyData.str)) (.tuple []) = (!bl && !bm) := by cases bl <;> cases bm <;> kernel_rfl
def spAgX (K : PySem.W.Frag) : Sp := fun vs H Q E => (∃ v u kd, vs = [v, u] ∧ KdV K H v kd ∧ RaiseW (He.ga K "BadArgument") "name" (.str "plan") H E) ∨ ∃ (p sh : Addr) (ss : List Int) (most late reserve : Int) (v : V), vs = [.ref p, v] ∧ PlanH K H p sh ss most late reserve ∧
  ((∃ kd, KdV K H v kd ∧ kd ≠ .tup ∧ Q (.bl false) H) ∨ (∃ t xs, v = .ref t ∧ SqT K H t xs ∧ ¬ (xs.length : Int) ≤ 5000 ∧ Q (.bl false) H) ∨ ∃ (t : Addr) (xs : List V) (its : List (Option Stp)) (B : List Addr), v = .ref t ∧ Crse K H B ss.length t xs its ∧ p ∈ B ∧ xs.length ≤ 5000 ∧
    ∀ H' sh', PlanH K H' p sh' ss most late reserve → Off [p] H H' → Q (.bl (verd (Sea.new ss most late reserve) its)) H')
theorem okL_is_against (T : Txt P w K mg) : DefL P w K mg base "is_against" 8 ["plan", "value"] (spAgX K) := by
  refine T.d_is_against.okL sc_is_against (fun _ _ _ _ _ _ us hl => match us, hl with | [_, _], _ => rfl) (fun vs H Q E h => ?_) (fun f cdv A outer s H vs Q E hr h => ?_)
  · rcases h with ⟨v, u, kd, rfl, _⟩ | ⟨p, sh, ss, most, late, reserve, v, rfl, _⟩ <;> rfl
  · have B := T.blt
    have hu := hu_of hr
    have G_demand := ok_demand (base := base) T
    have G_led := ok_led (base := base) T
    have G_Season_is_broken := ok_Season_is_broken (base := base) T
    have cl_Plan := T.cl_Plan
    have is_Plan := T.is_Plan
    have G_Season_beyond := ok_Season_beyond (base := base) T
    have cl_Boat := T.cl_Boat
    have is_Boat := T.is_Boat
    have cl_Season := T.cl_Season
    have is_Season := T.is_Season
    refine ⟨_, (pss_cons (ps_expr (pe_df G_demand (hr.mono (by decide)) (L2N.passes_call (L2N.takes_of rfl rfl rfl rfl) fun _ _ _ _ z => z) (pa_cons (pe_callB (call_isiK' (K := K) rfl) (by rfl) B.b_isinstance (by decide +kernel) (pa_cons (pv 0) (pa_cons (pe_glob (v := .ref (He.ga K "Plan")) rfl T.g_Plan rfl) pa_nil))) (pa_cons pe_str pa_nil))))
  (pss_cons (ps_set (i := 2) sc_is_against.nd rfl (by first | exact Or.inl rfl | exact Or.inr rfl) (pe_df G_led (hr.mono (by decide)) (L2N.passes_call (L2N.takes_of rfl rfl rfl rfl) fun _ _ _ _ z => z) (pa_cons (pv 0) (pa_cons (pv 1) pa_nil))))
  (pss_one (ps_ret (pe_and (pe_cmpR op_notN (pv 2) pe_non (nomark _)) (pe_and (pe_mth0 G_Season_is_broken (hr.mono (by decide)) (L2N.passes_call (L2N.takes_of rfl rfl rfl rfl) fun _ _ _ _ z => z) (pv 2)) (pe_one (pe_cmpR (op_eqDK (K := K) rfl hr.units) (pe_mth0 G_Season_beyond (hr.mono (by decide)) (L2N.passes_call (L2N.takes_of rfl rfl rfl rfl) fun _ _ _ _ z => z) (pv 2)) (pe_tup pa_nil) (nomark _))))))))), ?_⟩
    rcases h with ⟨v, u, kd, rfl, hk, q⟩ | ⟨p, sh, ss, most, late, reserve, v, rfl, hp, h⟩
    · walk_at "go"
      refine g_isiKd hk T.kn_Plan ?_
      walk_at "go"
      exact ⟨_, _, rfl, (fun z => by cases z), fun _ d hd => q d hd⟩
    obtain ⟨dp, h1⟩ := hp.at_
    walk_at "go"
    refine ⟨_, _, rfl, fun _ => ?_, fun z => by cases z⟩
    walk_at "go"
    have fin : ∀ H, Q (.bl false) H → Q (.bl false) H := fun _ z => z
    refine ⟨p, sh, ss, most, late, reserve, v, rfl, hp, ?_⟩
    rcases h with ⟨kd, hk, nk, q⟩ | ⟨t, xs, rfl, ht, hlen, q⟩ | ⟨t, xs, its, B, rfl, hc, hpB, hlen, q⟩
    · refine .inl ⟨kd, hk, nk, ?_⟩
      walk_at "go"
      refine ⟨rfl, ?_⟩
      walk_at "go"
      exact q
    · refine .inr (.inl ⟨t, xs, rfl, ht, hlen, ?_⟩)
      walk_at "go"
      refine ⟨rfl, ?_⟩
      walk_at "go"
      exact q
    · refine .inr (.inr ⟨t, xs, its, B, rfl, hc, hpB, hlen, fun z hz H1 k kp pk ph o1 => ?_, fun hn H1 sh' ph o1 => ?_⟩)
      rotate_left 1
      · walk_at "go"
        refine ⟨rfl, ?_⟩
        walk_at "go"
        have r := q H1 sh' ph o1
        unfold verd at r
        rw [hn] at r
        exact r
      subst kp
      unfold verd at q
      rw [hz] at q
      obtain ⟨dq, hq⟩ := pk.hq
      walk_at "go"
      refine ⟨rfl, ?_⟩
      walk_at "go"
      refine br_NF (by intro e; cases e) ?_
      walk_at "go"
      refine ⟨k, z, rfl, pk, ?_⟩
      walk_at "go"
      refine br_b (fun c => ?_) (fun c => ?_)
      · walk_at "go"
        refine ⟨k, z, rfl, pk, fun H2 p2 e2 o2 => ?_⟩
        walk_at "go"
        rename_i p3 hp3
        refine g_eqD (.tup (.of (upd_new e2 hp3)) (strs_dpAll _)) (.tup (.of upd_same) .nil) (by cases z.bl <;> cases z.bm <;> kernel_rfl) (by kernel_rfl) ?_
        rw [bey_nil]
        have oo := o1.trans (o2.mono (S' := [k.p]) (by simp))
        have r := q (upd H2 p3 (.tup [])) k.sh (ph.off (o2.trans (.new hp3)) (by simp)) (oo.trans (.new hp3))
        replace r : Q (.bl (z.broken && !z.bl && !z.bm)) _ := r
        rw [c, Bool.true_and] at r
        exact r
      · walk_at "go"
        have r := q H1 k.sh ph o1
        replace r : Q (.bl (z.broken && !z.bl && !z.bm)) _ := r
        rw [c, Bool.false_and, Bool.false_and] at r
        exact r
theorem ok_is_against (T : Txt P w K mg) : DefOk P w K mg base "is_against" 8 ["plan", "value"] (spAgX K) := (okL_is_against T).ok
end
end SH
end

section
/-! #### the walk's words -/
local macro_rules | `(tactic| walk_at "ne0") => `(tactic| first
  | assumption
  | (refine Ne.symm ?_; assumption))
local macro_rules | `(tactic| walk_at "ne") => `(tactic| first
  | assumption
  | (refine Ne.symm ?_; assumption)
  | (refine' L2.ne_of_none ?gx (by assumption); (case gx => walk_at "hp"))
  | (refine' Ne.symm (L2.ne_of_none ?gx (by assumption)); (case gx => walk_at "hp")))
local macro_rules | `(tactic| walk_at "hp") => `(tactic| first
  | assumption
  | exact L2.upd_same
  | (refine' SH.upd_new ?gh (by assumption); (case gh => walk_at "hp"))
  | (refine' (L2.upd_ne ?gn).trans ?gh; (case gn => walk_at "ne0"); (case gh => walk_at "hp"))
  | (refine' SH.Off.at (by assumption) ?gn ?gh; (case gn => walk_at "nin"); (case gh => walk_at "hp")))
local macro_rules | `(tactic| walk_at "nin") => `(tactic| first
  | exact SH.nin_nil
  | (refine SH.nin_cons ?_ ?_; (· walk_at "ne0"); (· walk_at "nin")))
local macro_rules | `(tactic| walk_at "sq") => `(tactic| first
  | assumption
  | (apply L2.SqL.of; (· walk_at "hp"))
  | (apply L2.SqT.of; (· walk_at "hp"))
  | (refine' SH.seqT_new ?gx (by assumption); (case gx => walk_at "sq"))
  | (refine' SH.seqL_new ?gx (by assumption); (case gx => walk_at "sq"))
  | (refine' SH.Off.seqT (by assumption) ?gx; (case gx => walk_at "sq"))
  | (refine' SH.Off.seqL (by assumption) ?gy ?gx; (case gx => walk_at "sq"); (case gy => walk_at "nin")))
local macro_rules | `(tactic| walk_at "kd") => `(tactic| first
  | assumption | exact SH.KdV.int _ | exact SH.KdV.bl _ | exact SH.KdV.str _ | exact SH.KdV.non
  | (apply SH.KdV.tup; (· walk_at "sq")) | (apply SH.KdV.lst; (· walk_at "sq")))
/-- a way that cannot be -/
local macro_rules | `(tactic| walk_at "no") => `(tactic| (exfalso; first | assumption | omega | contradiction | (simp_all; done)))
/-- one step -/
local macro_rules | `(tactic| walk_at "g1") => `(tactic| with_reducible first
  | refine SH.g_var (by with_unfolding_all rfl) ?_ | refine SH.g_c ?_ | refine SH.g_op ?_ | refine SH.g_un ?_ | refine SH.g_I0 ?_ | refine SH.g_U ?_
  | refine SH.g_eqI ?_ | refine SH.g_neI ?_ | refine SH.g_eqS ?_ | refine SH.g_neS ?_
  | refine SH.g_test ?_ | refine SH.g_B ?_ | refine SH.g_isB ?_ | refine SH.g_and ?_ | refine SH.g_or ?_ | refine SH.g_not ?_ | refine SH.g_andV ?_ | refine SH.g_orV ?_ | refine SH.g_notV ?_ | refine SH.g_ifE ?_ | refine SH.g_chain ?_
  | refine SH.g_nil ?_ | refine SH.g_cons ?_ | refine SH.g_tup ?_ | refine SH.g_lst ?_ | refine SH.g_call ?_ | refine SH.g_fld ?_ | refine SH.g_meth ?_ | refine SH.g_make ?_ | refine SH.g_cb ?_ | refine SH.g_bm ?_
  | refine SH.g_seq ?_ | refine SH.g_asg ?_ | refine SH.g_name ?_ | refine SH.g_drop ?_ | refine SH.g_ret ?_ | refine SH.g_retN ?_ | refine SH.g_next ?_ | refine SH.g_brk ?_ | refine SH.g_cnt ?_ | refine SH.g_ifs ?_ | refine SH.g_par ?_ | refine SH.g_par2 ?_ | refine SH.g_fldS ?_ | refine SH.g_raise ?_ | refine SH.g_rs ?_
  | refine SH.g_sub ?_ | refine SH.g_yes ?_ | refine SH.g_sl ?_ | refine SH.g_noPart ?_ | refine SH.g_part ?_ | refine SH.g_intO ?_ | refine SH.g_dget ?_ | refine SH.g_dput ?_ | refine SH.g_forR ?_ | refine SH.g_forL ?_ | refine SH.g_forT ?_ | refine SH.g_lcR ?_ | refine SH.g_lcL ?_ | refine SH.g_lcT ?_ | refine SH.g_gcons ?_ | refine SH.g_gnil ?_
  | refine SH.br_t ?_ | refine SH.br_f ?_
  | refine SH.g_int ?_ | refine SH.g_abs ?_ | refine SH.g_max2 ?_ | refine SH.g_min2 ?_)
local macro_rules | `(tactic| walk_at "g2") => `(tactic| first
  | walk_at "g1"
  | ((with_reducible refine' SH.g_isiInt ?ga ?gz); (case ga => walk_at "kd"))
  | ((with_reducible refine' SH.g_isiBool ?ga ?gz); (case ga => walk_at "kd"))
  | ((with_reducible refine' SH.g_isiStr ?ga ?gz); (case ga => walk_at "kd"))
  | ((with_reducible refine' SH.g_isiTup ?ga ?gz); (case ga => walk_at "kd"))
  | ((with_reducible refine' SH.g_ixT ?ga ?gb ?gz); (case ga => walk_at "sq"); (case gb => rfl))
  | ((with_reducible refine' SH.g_ixL ?ga ?gb ?gz); (case ga => walk_at "sq"); (case gb => first | rfl | (apply SH.atI_refs; assumption)))
  | ((with_reducible refine SH.br_F ?_ ?_); (· decide +kernel)) | ((with_reducible refine SH.br_T ?_ ?_); (· decide +kernel)) | ((with_reducible refine SH.br_NF ?_ ?_); (· decide +kernel)) | ((with_reducible refine SH.br_NT ?_ ?_); (· decide +kernel))
  | ((with_reducible refine' SH.g_gtup ?ga ?gb ?gz); (case ga => walk_at "sq"); (case gb => rfl))
  | ((with_reducible refine' SH.g_lenT ?ga ?gz); (case ga => walk_at "sq"))
  | ((with_reducible refine' SH.g_lenL ?ga ?gz); (case ga => walk_at "sq"))
  | ((with_reducible refine SH.g_mkT (SH.sz rfl) ?_); intro _ _)
  | ((with_reducible refine SH.g_mkL (SH.sz rfl) ?_); intro _ _)
  | ((with_reducible refine SH.g_dnew ?_); intro _ _)
  | ((with_reducible refine' SH.g_tupL ?ga ?gz); (case ga => walk_at "sq"); intro _ _)
  | ((with_reducible refine' SH.g_lstL ?ga ?gz); (case ga => walk_at "sq"); intro _ _)
  | ((with_reducible refine' SH.g_lstT ?ga ?gz); (case ga => walk_at "sq"); intro _ _)
  | ((with_reducible refine' SH.g_dgR ?ga ?gb ?gz); (case ga => walk_at "hp"); (case gb => walk_at "dv"))
  | ((with_reducible refine' SH.g_fldR ?ga ?gb ?gc ?gd ?gz); (case ga => walk_at "hp"); (case gb => walk_at "cl"); (case gc => walk_at "na"); (case gd => walk_at "fv"))
  | ((with_reducible refine' SH.g_insR ?ga ?gb ?gz); (case ga => walk_at "hp"); (case gb => walk_at "fn"))
  | ((with_reducible refine' SH.g_setL ?ga ?gb ?gz); (case ga => walk_at "hp"); (case gb => rfl))
  | ((with_reducible refine SH.g_I ?_ ?_); (· walk_at "ci"))
  | ((with_reducible refine' SH.g_slL ?ga ?gz); (case ga => walk_at "sq"); intro _ _)
  | ((with_reducible refine' SH.g_cat ?ga ?gb ?gc ?gz); (case ga => walk_at "hp"); (case gb => walk_at "hp"); (case gc => walk_at "ls"); intro _ _))
/-- the side conditions of numbers: a divisor, a factor -/
local macro_rules | `(tactic| walk_at "ci") => `(tactic| first
  | (show _ ≠ _; omega) | (show _ < _; omega) | (constructor <;> omega) | (refine Or.inr ⟨?_, ?_⟩ <;> (show _ < _; omega)) | (refine Or.inl ⟨?_, ?_⟩ <;> (show _ < _; omega)) | (refine ⟨?_, ?_, ?_⟩ <;> decide))
local macro_rules | `(tactic| walk_at "ls") => `(tactic| first | (show _ ≤ _; exact Nat.le_trans (by assumption) (by decide)) | (show _ ≤ _; exact Nat.le_trans (by simp; omega) (by decide : 1000 ≤ sizeLine)))
local macro_rules | `(tactic| walk_at "dv") => `(tactic| rfl)
local macro_rules | `(tactic| walk_at "fv") => `(tactic| rfl)
local macro_rules | `(tactic| walk_at "fn") => `(tactic| rfl)
local macro_rules | `(tactic| walk_at "cl") => `(tactic| assumption)
local macro_rules | `(tactic| walk_at "na") => `(tactic| assumption)
local macro_rules | `(tactic| walk_at "go") => `(tactic| repeat walk_at "g2")
/-- a way is split -/
local macro_rules | `(tactic| walk_at "br") => `(tactic| with_reducible first
  | refine SH.br_d (fun _ => ?_) (fun _ => ?_) | refine SH.br_nd (fun _ => ?_) (fun _ => ?_) | refine SH.br_b (fun _ => ?_) (fun _ => ?_))
/-- all ways -/
local macro_rules | `(tactic| walk_at "all") => `(tactic| repeat' first | walk_at "g2" | (walk_at "br" <;> try (walk_at "no")))
/-- a truth value is the other -/
local macro_rules | `(tactic| walk_at "bq") => `(tactic| first | rfl | (simp_all; done) | (simp_all; omega) | (simp only [decide_eq_true_eq, decide_eq_false_iff_not, Bool.and_eq_true, Bool.or_eq_true] at *; omega))
/-- what was tracked is as it was -/
local macro_rules | `(tactic| walk_at "of") => `(tactic| first
  | assumption
  | exact SH.Off.refl _ _
  | (refine' SH.Off.new2 ?gx (by assumption); (case gx => walk_at "of"))
  | (refine' SH.Off.mut ?gx (by assumption); (case gx => walk_at "of"))
  | (refine' SH.Off.trans' ?gx (by assumption) ?gy; (case gy => (intro _ h; (first | exact h | (simp at h; done) | (simp at h ⊢; simp [h]; done)))); (case gx => walk_at "of")))
/-- the law's dice -/
local macro_rules | `(tactic| walk_at "dc") => `(tactic| first
  | assumption
  | (refine' SH.DiceAt.new ?gx (by assumption); (case gx => walk_at "dc"))
  | (refine' SH.DiceAt.off ?gx (by assumption) ?gy; (case gx => walk_at "dc"); (case gy => walk_at "nin")))
local macro_rules | `(tactic| walk_at "g2") => `(tactic| first
  | ((with_reducible refine' SH.g_roll ?ga ?gb ?gc ?gd ?gz); (case ga => walk_at "dc"); (case gb => omega); (case gc => omega); (case gd => omega); intro _ _ _ _ _ _))
namespace SH
open PySem PySem.Spec PyProof.Rows L2
section
variable {P : Program} {w : World} {K : PySem.W.Frag} {mg : Str → Option Value} {base : Heap}
theorem ok_law_n_plan (T : Txt P w K mg) : DefOk P w K mg base "_law_n_plan" 3 ["dice"] (spPlan K) := by
  refine T.d_law_n_plan.ok sc_law_n_plan (fun _ _ _ _ _ _ us hl => match us, hl with | [_], _ => rfl) (fun vs H Q E h => ?_) (fun f cdv A outer s H vs Q E hr h => ?_)
  · obtain ⟨a, c, rfl, _⟩ := h
    rfl
  · obtain ⟨a, c, rfl, hd, hc, q⟩ := h
    have B := T.blt
    have hu := hu_of hr
    have G_law_pick := ok_law_pick (base := base) T
    have G_law_roll := ok_law_roll (base := base) T
    refine ⟨_, (pss_cons (ps_set (i := 1) sc_law_n_plan.nd rfl (by first | exact Or.inl rfl | exact Or.inr rfl) (pe_callTy (c_tupF (K := K) rfl) (by rfl) B.b_tuple (by decide +kernel) (pa_cons (pe_lc (own := [("boat", 5)]) rfl sc_law_n_plan.nd (pi_range1 rfl B.b_range (pa_cons (pe_df G_law_pick (hr.mono (by decide)) (L2N.passes_call (L2N.takes_of rfl rfl rfl rfl) fun _ _ _ _ z => z) (pa_cons (pv 0) (pa_cons (pe_lst (pa_cons pe_int (pa_cons pe_int (pa_cons pe_int (pa_cons pe_int (pa_cons pe_int pa_nil)))))) pa_nil))) pa_nil)) (blkOk_by (own := [("boat", 5)]) (N := ["dice", "shares", "most", "late", "need", "boat"]) (sc := defScope s_law_n_plan) (by decide +kernel)) (fun _ _ _ _ _ => (pg_name (i := 5) sc_law_n_plan.nd rfl (by first | exact Or.inl rfl | exact Or.inr rfl))) (fun _ _ _ _ _ => pts_nil) (fun _ _ _ _ _ => (pe_df G_law_pick (hr.mono (by decide)) passN (pa_cons (pv 0) (pa_cons (pe_lst (pa_cons pe_int (pa_cons pe_int (pa_cons pe_int (pa_cons (pe_df G_law_roll (hr.mono (by decide)) passN (pa_cons (pv 0) (pa_cons pe_int pa_nil))) (pa_cons (pe_df G_law_roll (hr.mono (by decide)) passN (pa_cons (pv 0) (pa_cons pe_int pa_nil))) pa_nil)))))) pa_nil))))) pa_nil)))
  (pss_cons (ps_par (i := 2) (j := 3) (by rfl) sc_law_n_plan.nd rfl rfl (by decide) rfl rfl (pa_cons (pe_op op_add pe_int (pe_df G_law_pick (hr.mono (by decide)) (L2N.passes_call (L2N.takes_of rfl rfl rfl rfl) fun _ _ _ _ z => z) (pa_cons (pv 0) (pa_cons (pe_lst (pa_cons pe_int (pa_cons pe_int (pa_cons pe_int (pa_cons (pe_df G_law_roll (hr.mono (by decide)) (L2N.passes_call (L2N.takes_of rfl rfl rfl rfl) fun _ _ _ _ z => z) (pa_cons (pv 0) (pa_cons pe_int pa_nil))) pa_nil))))) pa_nil)))) (pa_cons (pe_df G_law_pick (hr.mono (by decide)) (L2N.passes_call (L2N.takes_of rfl rfl rfl rfl) fun _ _ _ _ z => z) (pa_cons (pv 0) (pa_cons (pe_lst (pa_cons pe_int (pa_cons pe_int (pa_cons pe_int (pa_cons pe_int (pa_cons (pe_df G_law_roll (hr.mono (by decide)) (L2N.passes_call (L2N.takes_of rfl rfl rfl rfl) fun _ _ _ _ z => z) (pa_cons (pv 0) (pa_cons pe_int pa_nil))) pa_nil)))))) pa_nil))) pa_nil)) (by rfl))
  (pss_cons (ps_set (i := 4) sc_law_n_plan.nd rfl (by first | exact Or.inl rfl | exact Or.inr rfl) (pe_callB (c_min2 rfl) (by rfl) B.b_min (by decide +kernel) (pa_cons (pe_op op_mul (pe_op op_add (pe_op op_mul pe_int (pv 3)) pe_int) (pv 2)) (pa_cons (pe_callB (cr_maxTK (K := K) rfl rfl) (by rfl) B.b_max (by decide +kernel) (pa_cons (pv 1) pa_nil)) pa_nil))))
  (pss_one (ps_ret (pe_lst (pa_cons (pv 1) (pa_cons (pv 2) (pa_cons (pv 3) (pa_cons (pe_callB (c_min2 rfl) (by rfl) B.b_min (by decide +kernel) (pa_cons pe_int (pa_cons (pe_callB (c_max2 rfl) (by rfl) B.b_max (by decide +kernel) (pa_cons pe_int (pa_cons (pe_df G_law_pick (hr.mono (by decide)) (L2N.passes_call (L2N.takes_of rfl rfl rfl rfl) fun _ _ _ _ z => z) (pa_cons (pv 0) (pa_cons (pe_lst (pa_cons (pv 4) (pa_cons (pe_op op_sub (pv 4) pe_int) (pa_cons (pe_op op_add (pv 4) pe_int) (pa_cons (pe_df G_law_roll (hr.mono (by decide)) (L2N.passes_call (L2N.takes_of rfl rfl rfl rfl) fun _ _ _ _ z => z) (pa_cons (pv 0) (pa_cons pe_int pa_nil))) (pa_cons (pe_op op_mul (pv 3) (pv 2)) pa_nil)))))) pa_nil))) pa_nil))) pa_nil))) pa_nil)))))))))), ?_⟩
    walk_at "go"
    rename_i p0 hp0
    refine g_pick (ns := [1, 2, 2, 3, 5]) 1 5 hp0 hd (by omega) (by decide) (by decide) (by decide) fun n H1 hn n0 n1 d1 o1 => ?_
    have o1' : Off [a] H H1 := (Off.new hp0).trans o1
    walk_at "go"
    refine lcR_mk ⟨by omega, by omega⟩ (fun D i H2 => ∃ ss : List Int, ss.length = i ∧ (∀ s ∈ ss, 0 ≤ s ∧ s ≤ 89) ∧ H2 D = some (.lst (ss.map V.int)) ∧ DiceAt H2 a (c + 1 + 3 * (i : Int)) ∧ Off [a] H H2) (fun D hD => ?_) (fun D i H2 hD hi hP => ?_) (fun D H2 hD hP => ?_)
    · exact ⟨[], rfl, by simp, upd_same, by simpa using d1.new hD, o1'.new2 hD⟩
    · obtain ⟨ss, hl, hs, hDl, dd, oo⟩ := hP
      have hDa : D ≠ a := (d1.ne hD).symm
      have hi5 : i < 5 := by omega
      refine ⟨rfl, ?_⟩
      walk_at "go"
      rename_i r1 H3 r10 r11 d3 o3 r2 H4 r20 r21 d4 o4 p2 hp2
      refine g_pick (ns := [0, 3, 8, r1, r2]) 0 89 hp2 d4 (by omega) (by simp; omega) (by simp) (by simp) fun k H5 hk k0 k1 d5 o5 => ?_
      refine g_app (by walk_at "hp") ?_ ⟨ss ++ [k], by simp [hl], ?_, by rw [upd_same, List.map_append]; rfl, ?_, ?_⟩
      · rw [List.length_map, hl]
        exact Nat.lt_of_lt_of_le hi5 (by decide)
      · intro z hz
        rcases List.mem_append.mp hz with hz | hz
        · exact hs z hz
        · rw [List.mem_singleton.mp hz]; exact ⟨k0, k1⟩
      · exact (d5.put hDa.symm).mono (by omega)
      · have oD : H D = none := o1'.back hD
        walk_at "of"
    · obtain ⟨ss, hl, hs, hDl, dd, oo⟩ := hP
      walk_at "go"
      refine g_tupF (.of hDl) fun pt Ht hpt tN op => ?_
      have dt := dd.off op nin_nil
      have tS := tN.sq (K := K)
      have ot : Off [a] H Ht := oo.trans (op.mono (by simp))
      have ddn := dd.ne hpt
      clear dd
      walk_at "go"
      rename_i r1 H3 r10 r11 d3 o3 p2 hp2
      refine g_pick (ns := [0, 1, 2, r1]) 0 19 hp2 d3 (by omega) (by simp; omega) (by simp) (by simp) fun most H5 hk k0 k1 d5 o5 => ?_
      walk_at "go"
      rename_i r2 H6 r20 r21 d6 o6 p3 hp3
      refine g_pick (ns := [0, 1, 1, 2, r2]) 0 6 hp3 d6 (by omega) (by simp; omega) (by simp) (by simp) fun late H7 hk2 l0 l1 d7 o7 => ?_
      walk_at "go"
      have hln : 0 < ss.length := by omega
      have hpa : pt ≠ a := ddn.symm
      refine ⟨pt, ss, rfl, by walk_at "sq", hln, fun mx hm hx => ?_⟩
      have hm0 := (hs mx hm)
      have e1 : 0 ≤ (2 * late + 1) * (1 + most) := Int.mul_nonneg (by omega) (by omega)
      have e2 : 0 ≤ late * (1 + most) := Int.mul_nonneg (by omega) (by omega)
      have e3 : late * (1 + most) ≤ 6 * 20 := Int.mul_le_mul (by omega) (by omega) (by omega) (by omega)
      walk_at "go"
      rename_i r3 H8 r30 r31 d8 o8 p4 hp4
      refine g_pick (ns := [_, _, _, r3, _]) (-200) 200 hp4 d8 (by omega) ?_ (by simp) (by simp) fun res H9 hk3 z0 z1 d9 o9 => ?_
      · intro k hk
        simp only [List.mem_cons, List.not_mem_nil, or_false] at hk
        rcases hk with rfl | rfl | rfl | rfl | rfl <;> first | omega | (split <;> omega)
      walk_at "go"
      rename_i p5 hp5
      have ot9 : Off [a] Ht H9 := by walk_at "of"
      have e9 : TupN H9 pt (ss.map V.int) := tN.off ot9
      obtain ⟨_, l9⟩ := e9.live
      have hoff : Off [a] H H9 := ot.trans ot9
      refine q p5 pt ss (1 + most) late _ _ ⟨hln, by omega, fun s h => ⟨(hs s h).1, by have := (hs s h).2; omega⟩, by omega, by omega, l0, l1, ?_, ?_⟩ ?_ upd_same ?_ ?_ ?_ ?_ ?_
      · split <;> split <;> omega
      · split <;> split <;> omega
      · exact hoff.back hp5
      · exact oo.back hpt
      · exact e9.off (.new (S := []) hp5)
      · exact (ne_of_none l9 hp5).symm
      · exact (d9.new hp5).mono (by omega)
      · exact hoff.new2 hp5
end
end SH
end

section
/-! #### the walk's words -/
local macro_rules | `(tactic| walk_at "ne0") => `(tactic| first
  | assumption
  | (refine Ne.symm ?_; assumption))
local macro_rules | `(tactic| walk_at "ne") => `(tactic| first
  | assumption
  | (refine Ne.symm ?_; assumption)
  | (refine' L2.ne_of_none ?gx (by assumption); (case gx => walk_at "hp"))
  | (refine' Ne.symm (L2.ne_of_none ?gx (by assumption)); (case gx => walk_at "hp")))
local macro_rules | `(tactic| walk_at "hp") => `(tactic| first
  | assumption
  | exact L2.upd_same
  | (refine' SH.upd_new ?gh (by assumption); (case gh => walk_at "hp"))
  | (refine' (L2.upd_ne ?gn).trans ?gh; (case gn => walk_at "ne0"); (case gh => walk_at "hp"))
  | (refine' SH.Off.at (by assumption) ?gn ?gh; (case gn => walk_at "nin"); (case gh => walk_at "hp")))
local macro_rules | `(tactic| walk_at "nin") => `(tactic| first
  | exact SH.nin_nil
  | (refine SH.nin_cons ?_ ?_; (· walk_at "ne0"); (· walk_at "nin")))
local macro_rules | `(tactic| walk_at "sq") => `(tactic| first
  | assumption
  | (apply L2.SqL.of; (· walk_at "hp"))
  | (apply L2.SqT.of; (· walk_at "hp"))
  | (refine' SH.seqT_new ?gx (by assumption); (case gx => walk_at "sq"))
  | (refine' SH.seqL_new ?gx (by assumption); (case gx => walk_at "sq"))
  | (refine' SH.Off.seqT (by assumption) ?gx; (case gx => walk_at "sq"))
  | (refine' SH.Off.seqL (by assumption) ?gy ?gx; (case gx => walk_at "sq"); (case gy => walk_at "nin")))
local macro_rules | `(tactic| walk_at "kd") => `(tactic| first
  | assumption | exact SH.KdV.int _ | exact SH.KdV.bl _ | exact SH.KdV.str _ | exact SH.KdV.non
  | (apply SH.KdV.tup; (· walk_at "sq")) | (apply SH.KdV.lst; (· walk_at "sq")))
/-- a way that cannot be -/
local macro_rules | `(tactic| walk_at "no") => `(tactic| (exfalso; first | assumption | omega | contradiction | (simp_all; done)))
/-- one step -/
local macro_rules | `(tactic| walk_at "g1") => `(tactic| with_reducible first
  | refine SH.g_var (by with_unfolding_all rfl) ?_ | refine SH.g_c ?_ | refine SH.g_op ?_ | refine SH.g_un ?_ | refine SH.g_I0 ?_ | refine SH.g_U ?_
  | refine SH.g_eqI ?_ | refine SH.g_neI ?_ | refine SH.g_eqS ?_ | refine SH.g_neS ?_
  | refine SH.g_test ?_ | refine SH.g_B ?_ | refine SH.g_isB ?_ | refine SH.g_and ?_ | refine SH.g_or ?_ | refine SH.g_not ?_ | refine SH.g_andV ?_ | refine SH.g_orV ?_ | refine SH.g_notV ?_ | refine SH.g_ifE ?_ | refine SH.g_chain ?_
  | refine SH.g_nil ?_ | refine SH.g_cons ?_ | refine SH.g_tup ?_ | refine SH.g_lst ?_ | refine SH.g_call ?_ | refine SH.g_fld ?_ | refine SH.g_meth ?_ | refine SH.g_make ?_ | refine SH.g_cb ?_ | refine SH.g_bm ?_
  | refine SH.g_seq ?_ | refine SH.g_asg ?_ | refine SH.g_name ?_ | refine SH.g_drop ?_ | refine SH.g_ret ?_ | refine SH.g_retN ?_ | refine SH.g_next ?_ | refine SH.g_brk ?_ | refine SH.g_cnt ?_ | refine SH.g_ifs ?_ | refine SH.g_par ?_ | refine SH.g_par2 ?_ | refine SH.g_fldS ?_ | refine SH.g_raise ?_ | refine SH.g_rs ?_
  | refine SH.g_sub ?_ | refine SH.g_yes ?_ | refine SH.g_sl ?_ | refine SH.g_noPart ?_ | refine SH.g_part ?_ | refine SH.g_intO ?_ | refine SH.g_dget ?_ | refine SH.g_dput ?_ | refine SH.g_forR ?_ | refine SH.g_forL ?_ | refine SH.g_forT ?_ | refine SH.g_lcR ?_ | refine SH.g_lcL ?_ | refine SH.g_lcT ?_ | refine SH.g_gcons ?_ | refine SH.g_gnil ?_
  | refine SH.br_t ?_ | refine SH.br_f ?_
  | refine SH.g_int ?_ | refine SH.g_abs ?_ | refine SH.g_max2 ?_ | refine SH.g_min2 ?_)
local macro_rules | `(tactic| walk_at "g2") => `(tactic| first
  | walk_at "g1"
  | ((with_reducible refine' SH.g_isiInt ?ga ?gz); (case ga => walk_at "kd"))
  | ((with_reducible refine' SH.g_isiBool ?ga ?gz); (case ga => walk_at "kd"))
  | ((with_reducible refine' SH.g_isiStr ?ga ?gz); (case ga => walk_at "kd"))
  | ((with_reducible refine' SH.g_isiTup ?ga ?gz); (case ga => walk_at "kd"))
  | ((with_reducible refine' SH.g_ixT ?ga ?gb ?gz); (case ga => walk_at "sq"); (case gb => rfl))
  | ((with_reducible refine' SH.g_ixL ?ga ?gb ?gz); (case ga => walk_at "sq"); (case gb => first | rfl | (apply SH.atI_refs; assumption)))
  | ((with_reducible refine SH.br_F ?_ ?_); (· decide +kernel)) | ((with_reducible refine SH.br_T ?_ ?_); (· decide +kernel)) | ((with_reducible refine SH.br_NF ?_ ?_); (· decide +kernel)) | ((with_reducible refine SH.br_NT ?_ ?_); (· decide +kernel))
  | ((with_reducible refine' SH.g_gtup ?ga ?gb ?gz); (case ga => walk_at "sq"); (case gb => rfl))
  | ((with_reducible refine' SH.g_lenT ?ga ?gz); (case ga => walk_at "sq"))
  | ((with_reducible refine' SH.g_lenL ?ga ?gz); (case ga => walk_at "sq"))
  | ((with_reducible refine SH.g_mkT (SH.sz rfl) ?_); intro _ _)
  | ((with_reducible refine SH.g_mkL (SH.sz rfl) ?_); intro _ _)
  | ((with_reducible refine SH.g_dnew ?_); intro _ _)
  | ((with_reducible refine' SH.g_tupL ?ga ?gz); (case ga => walk_at "sq"); intro _ _)
  | ((with_reducible refine' SH.g_lstL ?ga ?gz); (case ga => walk_at "sq"); intro _ _)
  | ((with_reducible refine' SH.g_lstT ?ga ?gz); (case ga => walk_at "sq"); intro _ _)
  | ((with_reducible refine' SH.g_dgR ?ga ?gb ?gz); (case ga => walk_at "hp"); (case gb => walk_at "dv"))
  | ((with_reducible refine' SH.g_fldR ?ga ?gb ?gc ?gd ?gz); (case ga => walk_at "hp"); (case gb => walk_at "cl"); (case gc => walk_at "na"); (case gd => walk_at "fv"))
  | ((with_reducible refine' SH.g_insR ?ga ?gb ?gz); (case ga => walk_at "hp"); (case gb => walk_at "fn"))
  | ((with_reducible refine' SH.g_setL ?ga ?gb ?gz); (case ga => walk_at "hp"); (case gb => rfl))
  | ((with_reducible refine SH.g_I ?_ ?_); (· walk_at "ci"))
  | ((with_reducible refine' SH.g_slL ?ga ?gz); (case ga => walk_at "sq"); intro _ _)
  | ((with_reducible refine' SH.g_cat ?ga ?gb ?gc ?gz); (case ga => walk_at "hp"); (case gb => walk_at "hp"); (case gc => walk_at "ls"); intro _ _))
/-- the side conditions of numbers: a divisor, a factor -/
local macro_rules | `(tactic| walk_at "ci") => `(tactic| first
  | (show _ ≠ _; omega) | (show _ < _; omega) | (constructor <;> omega) | (refine Or.inr ⟨?_, ?_⟩ <;> (show _ < _; omega)) | (refine Or.inl ⟨?_, ?_⟩ <;> (show _ < _; omega)) | (refine ⟨?_, ?_, ?_⟩ <;> decide))
local macro_rules | `(tactic| walk_at "ls") => `(tactic| first | (show _ ≤ _; exact Nat.le_trans (by assumption) (by decide)) | (show _ ≤ _; exact Nat.le_trans (by simp; omega) (by decide : 1000 ≤ sizeLine)))
local macro_rules | `(tactic| walk_at "dv") => `(tactic| rfl)
local macro_rules | `(tactic| walk_at "fv") => `(tactic| rfl)
local macro_rules | `(tactic| walk_at "fn") => `(tactic| rfl)
local macro_rules | `(tactic| walk_at "cl") => `(tactic| assumption)
local macro_rules | `(tactic| walk_at "na") => `(tactic| assumption)
local macro_rules | `(tactic| walk_at "go") => `(tactic| repeat walk_at "g2")
/-- a way is split -/
local macro_rules | `(tactic| walk_at "br") => `(tactic| with_reducible first
  | refine SH.br_d (fun _ => ?_) (fun _ => ?_) | refine SH.br_nd (fun _ => ?_) (fun _ => ?_) | refine SH.br_b (fun _ => ?_) (fun _ => ?_))
/-- all ways -/
local macro_rules | `(tactic| walk_at "all") => `(tactic| repeat' first | walk_at "g2" | (walk_at "br" <;> try (walk_at "no")))
/-- a truth value is the other -/
local macro_rules | `(tactic| walk_at "bq") => `(tactic| first | rfl | (simp_all; done) | (simp_all; omega) | (simp only [decide_eq_true_eq, decide_eq_false_iff_not, Bool.and_eq_true, Bool.or_eq_true] at *; omega))
/-- what was tracked is as it was -/
local macro_rules | `(tactic| walk_at "of") => `(tactic| first
  | assumption
  | exact SH.Off.refl _ _
  | (refine' SH.Off.new2 ?gx (by assumption); (case gx => walk_at "of"))
  | (refine' SH.Off.mut ?gx (by assumption); (case gx => walk_at "of"))
  | (refine' SH.Off.trans' ?gx (by assumption) ?gy; (case gy => (intro _ h; (first | exact h | (simp at h; done) | (simp at h ⊢; simp [h]; done)))); (case gx => walk_at "of")))
/-- the own season's dicts -/
local macro_rules | `(tactic| walk_at "dv") => `(tactic| with_reducible first
  | exact SH.bk_right | exact SH.bk_heard | exact SH.bk_landed | exact SH.bk_told | exact SH.bk_untold | exact SH.bk_unheard | exact SH.bk_present
  | exact SH.ok_own | exact SH.ok_now | exact SH.ok_boats | exact SH.ok_broken | exact SH.ok_beyond)
local macro_rules | `(tactic| walk_at "dw") => `(tactic| with_reducible first
  | exact SH.bp_right | exact SH.bp_heard | exact SH.bp_landed | exact SH.bp_told | exact SH.bp_untold | exact SH.bp_unheard | exact SH.bp_present
  | exact SH.op_now | exact SH.op_broken | exact SH.op_beyond)
local macro_rules | `(tactic| walk_at "g2") => `(tactic|
  ((with_reducible refine' SH.g_dpA ?ga ?gb ?gc ?gz); (case ga => walk_at "hp"); (case gb => walk_at "dw"); (case gc => exact SH.szk rfl); intro _ _ _))
local macro_rules | `(tactic| walk_at "sq") => `(tactic|
  ((refine' SH.seqT_put ?gx ?gy ?gz); (case gy => walk_at "hp"); (case gz => exact trivial); (case gx => walk_at "sq")))
local macro_rules | `(tactic| walk_at "g2") => `(tactic|
  ((with_reducible refine' SH.g_ixL ?ga ?gb ?gz); (case ga => walk_at "sq"); (case gb => first | rfl | (apply SH.atI_refs; assumption) | exact SH.atI_cons0)))
/-- the law's dice -/
local macro_rules | `(tactic| walk_at "dc") => `(tactic| first
  | assumption
  | (refine' SH.DiceAt.new ?gx (by assumption); (case gx => walk_at "dc"))
  | (refine' SH.DiceAt.off ?gx (by assumption) ?gy; (case gx => walk_at "dc"); (case gy => walk_at "nin")))
local macro_rules | `(tactic| walk_at "g2") => `(tactic| first
  | ((with_reducible refine' SH.g_roll ?ga ?gb ?gc ?gd ?gz); (case ga => walk_at "dc"); (case gb => omega); (case gc => omega); (case gd => omega); intro _ _ _ _ _ _))
namespace SH
open PySem PySem.Spec PyProof.Rows L2
/-- every value has a kind -/
def AllKd (K : PySem.W.Frag) (H : Hp) (xs : List V) : Prop := ∀ x ∈ xs, ∃ kd, KdV K H x kd
theorem AllKd.cons {K : PySem.W.Frag} {H : Hp} {x : V} {xs : List V} {kd : Kd} (h : KdV K H x kd) (t : AllKd K H xs) : AllKd K H (x :: xs) := fun y hy => by
  rcases List.mem_cons.mp hy with rfl | hy
  · exact ⟨_, h⟩
  · exact t y hy
theorem AllKd.nil {K : PySem.W.Frag} {H : Hp} : AllKd K H [] := fun y hy => by cases hy
theorem KdV.off {K : PySem.W.Frag} {S : List Addr} {H H' : Hp} {v : V} {kd : Kd} (hk : KdV K H v kd) (o : Off S H H') (hn : ∀ a o, v = .ref a → H a = some o → a ∉ S) : KdV K H' v kd := by
  cases hk with
  | non => exact .non
  | bl b => exact .bl b
  | int i => exact .int i
  | str z => exact .str z
  | @lst a xs h =>
    refine .lst (xs := xs) ?_
    rcases h with (h | ⟨o', h⟩) | h
    · exact .inl (.inl (o.at (hn a _ rfl h) h))
    · exact .inl (.inr ⟨o', o.frzs _ _ _ h⟩)
    · exact .inr h
  | @tup a xs h => exact .tup (o.seqT h)
  | @dct a kvs h => exact .dct (o.at (hn a _ rfl h) h)
theorem AllKd.off {K : PySem.W.Frag} {H H' : Hp} {xs : List V} (h : AllKd K H xs) (o : Off [] H H') : AllKd K H' xs := fun x hx => by
  obtain ⟨kd, z⟩ := h x hx
  exact ⟨kd, z.off o fun _ _ _ _ => nin_nil⟩
theorem AllKd.app {K : PySem.W.Frag} {H : Hp} {xs ys : List V} (h : AllKd K H xs) (h2 : AllKd K H ys) : AllKd K H (xs ++ ys) := fun y hy => (List.mem_append.mp hy).elim (h y) (h2 y)
def spOdd (K : PySem.W.Frag) : Sp := fun vs H Q _ => ∃ a c, vs = [.ref a] ∧ DiceAt H a c ∧ c ≤ 10000000 ∧ ∀ H' p xs, H' p = some (.lst xs) → H p = none → AllKd K H' xs → 0 < xs.length → xs.length < 1000 → DiceAt H' a (c + 1) → Off [a] H H' → Q (.ref p) H'
local macro_rules | `(tactic| walk_at "kd") => `(tactic| first
  | assumption | exact SH.KdV.int _ | exact SH.KdV.bl _ | exact SH.KdV.str _ | exact SH.KdV.non
  | (apply SH.KdV.tup; (· walk_at "sq")) | (apply SH.KdV.lst; (· walk_at "sq")) | (apply SH.KdV.dct; (· walk_at "hp")))
local macro_rules | `(tactic| walk_at "g2") => `(tactic| with_reducible first | refine SH.g_par3 ?_ | refine SH.g_par33 ?_ | refine SH.g_pnil ?_ | refine SH.g_pcons ?_ | (refine SH.g_disp ?_; intro _ _))
section
variable {P : Program} {w : World} {K : PySem.W.Frag} {mg : Str → Option Value} {base : Heap}
theorem ok_law_odd_values (T : Txt P w K mg) : DefOk P w K mg base "_law_odd_values" 2 ["dice"] (spOdd K) := by
  refine T.d_law_odd_values.ok sc_law_odd_values (fun _ _ _ _ _ _ us hl => match us, hl with | [_], _ => rfl) (fun vs H Q E h => ?_) (fun f cdv A outer s H vs Q E hr h => ?_)
  · obtain ⟨a, c, rfl, _⟩ := h
    rfl
  · obtain ⟨a, c, rfl, hd, hc, q⟩ := h
    have B := T.blt
    have hu := hu_of hr
    have G_law_roll := ok_law_roll (base := base) T
    refine ⟨_, (pss_cons (ps_set (i := 1) sc_law_odd_values.nd rfl (by first | exact Or.inl rfl | exact Or.inr rfl) (pe_df G_law_roll (hr.mono (by decide)) (L2N.passes_call (L2N.takes_of rfl rfl rfl rfl) fun _ _ _ _ z => z) (pa_cons (pv 0) (pa_cons pe_int pa_nil))))
  (pss_cons (ps_set (i := 2) sc_law_odd_values.nd rfl (by first | exact Or.inl rfl | exact Or.inr rfl) (pe_lst (pa_cons pe_non (pa_cons pe_bl (pa_cons pe_bl (pa_cons (pe_op op_sub (pe_un un_neg pe_int) (pv 1)) (pa_cons (pe_op op_add (pe_op op_pow pe_int pe_int) (pv 1)) (pa_cons pe_str (pa_cons pe_str (pa_cons pe_str (pa_cons pe_str (pa_cons (pe_tup pa_nil) (pa_cons (pe_lst pa_nil) (pa_cons pe_dnewK (pa_cons (pe_tup (pa_cons (pe_tup pa_nil) pa_nil)) (pa_cons (pe_lst (pa_cons (pv 1) pa_nil)) (pa_cons (pe_disp (pps_cons pe_str (pv 1) pps_nil) (by rfl) (by rfl) (fun z => by cases z) (by decide)) pa_nil)))))))))))))))))
  (pss_one (ps_ret (pe_op op_cat (pv 2) (pe_lst (pa_cons (pe_tup (pa_cons pe_non (pa_cons (pv 1) pa_nil))) (pa_cons pe_str (pa_cons (pe_tup (pa_cons pe_str pa_nil)) (pa_cons (pe_tup (pa_cons (pe_tup (pa_cons pe_str (pa_cons pe_int pa_nil))) pa_nil)) (pa_cons pe_str (pa_cons (pe_lst (pa_cons (pe_lst pa_nil) pa_nil)) (pa_cons (pe_disp (pps_cons pe_str pe_int pps_nil) (by rfl) (by rfl) (fun z => by cases z) (by decide)) pa_nil))))))))))))), ?_⟩
    walk_at "go"
    rename_i r H1 r0 r1 d1 o1 p6 h6 p5 h5 p4 h4 p3 h3 p2 h2 p1 h1 p0 h0
    have k1 : AllKd K (upd (upd (upd (upd (upd (upd H1 p6 (.tup [])) p5 (.lst [])) p4 (.dK [])) p3 (.tup [])) p2 (.tup [.ref p3])) p1 (.lst [.int r]))
        [.non, .bl true, .bl false, .int (-1 - r), .int (10 ^ Int.toNat 40 + r), .str "", .str "A", .str "abcdefghi", .str "all", .ref p6, .ref p5, .ref p4, .ref p2, .ref p1] := by
      repeat (refine AllKd.cons (by walk_at "kd") ?_)
      exact AllKd.nil
    have oX : Off [a] H (upd (upd (upd (upd (upd (upd H1 p6 (.tup [])) p5 (.lst [])) p4 (.dK [])) p3 (.tup [])) p2 (.tup [.ref p3])) p1 (.lst [.int r])) := (((((o1.new2 h6).new2 h5).new2 h4).new2 h3).new2 h2).new2 h1
    have dX := (((((d1.new h6).new h5).new h4).new h3).new h2).new (o := .lst [.int r]) h1
    generalize upd (upd (upd (upd (upd (upd H1 p6 (.tup [])) p5 (.lst [])) p4 (.dK [])) p3 (.tup [])) p2 (.tup [.ref p3])) p1 (.lst [.int r]) = X at *
    clear h1 h2 h3 h4 h5 h6 d1 o1
    refine g_disp2 [(.inr "a", .int r)] upd_same rfl (Nat.le_of_ble_eq_true rfl) (by kernel_rfl) fun H3 l3 m3 => ?_
    have o3 : Off [] X H3 := (Off.new h0).mutA m3 h0
    have k3 := k1.off o3
    have d3 := dX.off o3 nin_nil
    have oY : Off [a] H H3 := oX.trans (o3.mono (by simp))
    clear m3 k1 dX h0
    walk_at "go"
    rename_i p7 h7 q6 e6 q5 e5 q4 e4 q3 e3 q2 e2 q1 e1 q0 e0
    have oZ : Off [] H3 (upd (upd (upd (upd (upd (upd (upd H3 p7 (.lst [.non, .bl true, .bl false, .int (-1 - r), .int (10 ^ Int.toNat 40 + r), .str "", .str "A", .str "abcdefghi", .str "all", .ref p6, .ref p5, .ref p4, .ref p2, .ref p1, .ref p0])) q6 (.tup [.non, .int r])) q5 (.tup [.str "a"])) q4 (.tup [.str "a", .int 1])) q3 (.tup [.ref q4])) q2 (.lst [])) q1 (.lst [.ref q2])) := ((((((Off.new h7).new2 e6).new2 e5).new2 e4).new2 e3).new2 e2).new2 e1
    have j7 : (upd (upd (upd (upd (upd (upd (upd H3 p7 (.lst [.non, .bl true, .bl false, .int (-1 - r), .int (10 ^ Int.toNat 40 + r), .str "", .str "A", .str "abcdefghi", .str "all", .ref p6, .ref p5, .ref p4, .ref p2, .ref p1, .ref p0])) q6 (.tup [.non, .int r])) q5 (.tup [.str "a"])) q4 (.tup [.str "a", .int 1])) q3 (.tup [.ref q4])) q2 (.lst [])) q1 (.lst [.ref q2])) p7 = _ := upd_new (upd_new (upd_new (upd_new (upd_new (upd_new upd_same e6) e5) e4) e3) e2) e1
    have k4 : AllKd K (upd (upd (upd (upd (upd (upd (upd H3 p7 (.lst [.non, .bl true, .bl false, .int (-1 - r), .int (10 ^ Int.toNat 40 + r), .str "", .str "A", .str "abcdefghi", .str "all", .ref p6, .ref p5, .ref p4, .ref p2, .ref p1, .ref p0])) q6 (.tup [.non, .int r])) q5 (.tup [.str "a"])) q4 (.tup [.str "a", .int 1])) q3 (.tup [.ref q4])) q2 (.lst [])) q1 (.lst [.ref q2]))
        [.ref q6, .str "a b", .ref q5, .ref q3, .str "none", .ref q1] := by
      repeat (refine AllKd.cons (by walk_at "kd") ?_)
      exact AllKd.nil
    generalize upd (upd (upd (upd (upd (upd (upd H3 p7 (.lst [.non, .bl true, .bl false, .int (-1 - r), .int (10 ^ Int.toNat 40 + r), .str "", .str "A", .str "abcdefghi", .str "all", .ref p6, .ref p5, .ref p4, .ref p2, .ref p1, .ref p0])) q6 (.tup [.non, .int r])) q5 (.tup [.str "a"])) q4 (.tup [.str "a", .int 1])) q3 (.tup [.ref q4])) q2 (.lst [])) q1 (.lst [.ref q2]) = Y at *
    clear e1 e2 e3 e4 e5 e6
    refine g_disp2 [(.inr "copies", .int 1)] upd_same rfl (Nat.le_of_ble_eq_true rfl) (by kernel_rfl) fun H5 l5 m5 => ?_
    have o5 : Off [] Y H5 := (Off.new e0).mutA m5 e0
    have k5 := (k3.off oZ).off o5
    have k6 := k4.off o5
    have d5 := (d3.off oZ nin_nil).off o5 nin_nil
    have j5 := o5.at nin_nil j7
    have oV : Off [a] H H5 := (oY.trans (oZ.mono (by simp))).trans (o5.mono (by simp))
    have l5' := (oZ.trans o5).at nin_nil l3
    walk_at "go"
    rename_i p8 h8
    refine g_cat (upd_new j5 h8) upd_same (by rw [PySem.sizeLine_eq]; exact Nat.le_of_ble_eq_true rfl) fun p9 h9 => ?_
    refine q _ p9 _ upd_same ((oV.new2 h8).back h9) ?_ (by simp) (by simp) ((d5.new h8).new h9) ((oV.new2 h8).new2 h9)
    exact ((k5.app (AllKd.cons (.dct l5') AllKd.nil)).app (k6.app (AllKd.cons (.dct l5) AllKd.nil))).off ((Off.new h8).new2 h9)
end
end SH
end

section
/-! #### the walk's words -/
local macro_rules | `(tactic| walk_at "ne0") => `(tactic| first
  | assumption
  | (refine Ne.symm ?_; assumption))
local macro_rules | `(tactic| walk_at "ne") => `(tactic| first
  | assumption
  | (refine Ne.symm ?_; assumption)
  | (refine' L2.ne_of_none ?gx (by assumption); (case gx => walk_at "hp"))
  | (refine' Ne.symm (L2.ne_of_none ?gx (by assumption)); (case gx => walk_at "hp")))
local macro_rules | `(tactic| walk_at "hp") => `(tactic| first
  | assumption
  | exact L2.upd_same
  | (refine' SH.upd_new ?gh (by assumption); (case gh => walk_at "hp"))
  | (refine' (L2.upd_ne ?gn).trans ?gh; (case gn => walk_at "ne0"); (case gh => walk_at "hp"))
  | (refine' SH.Off.at (by assumption) ?gn ?gh; (case gn => walk_at "nin"); (case gh => walk_at "hp")))
local macro_rules | `(tactic| walk_at "nin") => `(tactic| first
  | exact SH.nin_nil
  | (refine SH.nin_cons ?_ ?_; (· walk_at "ne0"); (· walk_at "nin")))
local macro_rules | `(tactic| walk_at "sq") => `(tactic| first
  | assumption
  | (apply L2.SqL.of; (· walk_at "hp"))
  | (apply L2.SqT.of; (· walk_at "hp"))
  | (refine' SH.seqT_new ?gx (by assumption); (case gx => walk_at "sq"))
  | (refine' SH.seqL_new ?gx (by assumption); (case gx => walk_at "sq"))
  | (refine' SH.Off.seqT (by assumption) ?gx; (case gx => walk_at "sq"))
  | (refine' SH.Off.seqL (by assumption) ?gy ?gx; (case gx => walk_at "sq"); (case gy => walk_at "nin")))
local macro_rules | `(tactic| walk_at "kd") => `(tactic| first
  | assumption | exact SH.KdV.int _ | exact SH.KdV.bl _ | exact SH.KdV.str _ | exact SH.KdV.non
  | (apply SH.KdV.tup; (· walk_at "sq")) | (apply SH.KdV.lst; (· walk_at "sq")))
/-- a way that cannot be -/
local macro_rules | `(tactic| walk_at "no") => `(tactic| (exfalso; first | assumption | omega | contradiction | (simp_all; done)))
/-- one step -/
local macro_rules | `(tactic| walk_at "g1") => `(tactic| with_reducible first
  | refine SH.g_var (by with_unfolding_all rfl) ?_ | refine SH.g_c ?_ | refine SH.g_op ?_ | refine SH.g_un ?_ | refine SH.g_I0 ?_ | refine SH.g_U ?_
  | refine SH.g_eqI ?_ | refine SH.g_neI ?_ | refine SH.g_eqS ?_ | refine SH.g_neS ?_
  | refine SH.g_test ?_ | refine SH.g_B ?_ | refine SH.g_isB ?_ | refine SH.g_and ?_ | refine SH.g_or ?_ | refine SH.g_not ?_ | refine SH.g_andV ?_ | refine SH.g_orV ?_ | refine SH.g_notV ?_ | refine SH.g_ifE ?_ | refine SH.g_chain ?_
  | refine SH.g_nil ?_ | refine SH.g_cons ?_ | refine SH.g_tup ?_ | refine SH.g_lst ?_ | refine SH.g_call ?_ | refine SH.g_fld ?_ | refine SH.g_meth ?_ | refine SH.g_make ?_ | refine SH.g_cb ?_ | refine SH.g_bm ?_
  | refine SH.g_seq ?_ | refine SH.g_asg ?_ | refine SH.g_name ?_ | refine SH.g_drop ?_ | refine SH.g_ret ?_ | refine SH.g_retN ?_ | refine SH.g_next ?_ | refine SH.g_brk ?_ | refine SH.g_cnt ?_ | refine SH.g_ifs ?_ | refine SH.g_par ?_ | refine SH.g_par2 ?_ | refine SH.g_fldS ?_ | refine SH.g_raise ?_ | refine SH.g_rs ?_
  | refine SH.g_sub ?_ | refine SH.g_yes ?_ | refine SH.g_sl ?_ | refine SH.g_noPart ?_ | refine SH.g_part ?_ | refine SH.g_intO ?_ | refine SH.g_dget ?_ | refine SH.g_dput ?_ | refine SH.g_forR ?_ | refine SH.g_forL ?_ | refine SH.g_forT ?_ | refine SH.g_lcR ?_ | refine SH.g_lcL ?_ | refine SH.g_lcT ?_ | refine SH.g_gcons ?_ | refine SH.g_gnil ?_
  | refine SH.br_t ?_ | refine SH.br_f ?_
  | refine SH.g_int ?_ | refine SH.g_abs ?_ | refine SH.g_max2 ?_ | refine SH.g_min2 ?_)
local macro_rules | `(tactic| walk_at "g2") => `(tactic| first
  | walk_at "g1"
  | ((with_reducible refine' SH.g_isiInt ?ga ?gz); (case ga => walk_at "kd"))
  | ((with_reducible refine' SH.g_isiBool ?ga ?gz); (case ga => walk_at "kd"))
  | ((with_reducible refine' SH.g_isiStr ?ga ?gz); (case ga => walk_at "kd"))
  | ((with_reducible refine' SH.g_isiTup ?ga ?gz); (case ga => walk_at "kd"))
  | ((with_reducible refine' SH.g_ixT ?ga ?gb ?gz); (case ga => walk_at "sq"); (case gb => rfl))
  | ((with_reducible refine' SH.g_ixL ?ga ?gb ?gz); (case ga => walk_at "sq"); (case gb => first | rfl | (apply SH.atI_refs; assumption)))
  | ((with_reducible refine SH.br_F ?_ ?_); (· decide +kernel)) | ((with_reducible refine SH.br_T ?_ ?_); (· decide +kernel)) | ((with_reducible refine SH.br_NF ?_ ?_); (· decide +kernel)) | ((with_reducible refine SH.br_NT ?_ ?_); (· decide +kernel))
  | ((with_reducible refine' SH.g_gtup ?ga ?gb ?gz); (case ga => walk_at "sq"); (case gb => rfl))
  | ((with_reducible refine' SH.g_lenT ?ga ?gz); (case ga => walk_at "sq"))
  | ((with_reducible refine' SH.g_lenL ?ga ?gz); (case ga => walk_at "sq"))
  | ((with_reducible refine SH.g_mkT (SH.sz rfl) ?_); intro _ _)
  | ((with_reducible refine SH.g_mkL (SH.sz rfl) ?_); intro _ _)
  | ((with_reducible refine SH.g_dnew ?_); intro _ _)
  | ((with_reducible refine' SH.g_tupL ?ga ?gz); (case ga => walk_at "sq"); intro _ _)
  | ((with_reducible refine' SH.g_lstL ?ga ?gz); (case ga => walk_at "sq"); intro _ _)
  | ((with_reducible refine' SH.g_lstT ?ga ?gz); (case ga => walk_at "sq"); intro _ _)
  | ((with_reducible refine' SH.g_dgR ?ga ?gb ?gz); (case ga => walk_at "hp"); (case gb => walk_at "dv"))
  | ((with_reducible refine' SH.g_fldR ?ga ?gb ?gc ?gd ?gz); (case ga => walk_at "hp"); (case gb => walk_at "cl"); (case gc => walk_at "na"); (case gd => walk_at "fv"))
  | ((with_reducible refine' SH.g_insR ?ga ?gb ?gz); (case ga => walk_at "hp"); (case gb => walk_at "fn"))
  | ((with_reducible refine' SH.g_setL ?ga ?gb ?gz); (case ga => walk_at "hp"); (case gb => rfl))
  | ((with_reducible refine SH.g_I ?_ ?_); (· walk_at "ci"))
  | ((with_reducible refine' SH.g_slL ?ga ?gz); (case ga => walk_at "sq"); intro _ _)
  | ((with_reducible refine' SH.g_cat ?ga ?gb ?gc ?gz); (case ga => walk_at "hp"); (case gb => walk_at "hp"); (case gc => walk_at "ls"); intro _ _))
/-- the side conditions of numbers: a divisor, a factor -/
local macro_rules | `(tactic| walk_at "ci") => `(tactic| first
  | (show _ ≠ _; omega) | (show _ < _; omega) | (constructor <;> omega) | (refine Or.inr ⟨?_, ?_⟩ <;> (show _ < _; omega)) | (refine Or.inl ⟨?_, ?_⟩ <;> (show _ < _; omega)) | (refine ⟨?_, ?_, ?_⟩ <;> decide))
local macro_rules | `(tactic| walk_at "ls") => `(tactic| first | (show _ ≤ _; exact Nat.le_trans (by assumption) (by decide)) | (show _ ≤ _; exact Nat.le_trans (by simp; omega) (by decide : 1000 ≤ sizeLine)))
local macro_rules | `(tactic| walk_at "dv") => `(tactic| rfl)
local macro_rules | `(tactic| walk_at "fv") => `(tactic| rfl)
local macro_rules | `(tactic| walk_at "fn") => `(tactic| rfl)
local macro_rules | `(tactic| walk_at "cl") => `(tactic| assumption)
local macro_rules | `(tactic| walk_at "na") => `(tactic| assumption)
local macro_rules | `(tactic| walk_at "go") => `(tactic| repeat walk_at "g2")
/-- a way is split -/
local macro_rules | `(tactic| walk_at "br") => `(tactic| with_reducible first
  | refine SH.br_d (fun _ => ?_) (fun _ => ?_) | refine SH.br_nd (fun _ => ?_) (fun _ => ?_) | refine SH.br_b (fun _ => ?_) (fun _ => ?_))
/-- all ways -/
local macro_rules | `(tactic| walk_at "all") => `(tactic| repeat' first | walk_at "g2" | (walk_at "br" <;> try (walk_at "no")))
/-- a truth value is the other -/
local macro_rules | `(tactic| walk_at "bq") => `(tactic| first | rfl | (simp_all; done) | (simp_all; omega) | (simp only [decide_eq_true_eq, decide_eq_false_iff_not, Bool.and_eq_true, Bool.or_eq_true] at *; omega))
/-- what was tracked is as it was -/
local macro_rules | `(tactic| walk_at "of") => `(tactic| first
  | assumption
  | exact SH.Off.refl _ _
  | (refine' SH.Off.new2 ?gx (by assumption); (case gx => walk_at "of"))
  | (refine' SH.Off.mut ?gx (by assumption); (case gx => walk_at "of"))
  | (refine' SH.Off.trans' ?gx (by assumption) ?gy; (case gy => (intro _ h; (first | exact h | (simp at h; done) | (simp at h ⊢; simp [h]; done)))); (case gx => walk_at "of")))
/-- the own season's dicts -/
local macro_rules | `(tactic| walk_at "dv") => `(tactic| with_reducible first
  | exact SH.bk_right | exact SH.bk_heard | exact SH.bk_landed | exact SH.bk_told | exact SH.bk_untold | exact SH.bk_unheard | exact SH.bk_present
  | exact SH.ok_own | exact SH.ok_now | exact SH.ok_boats | exact SH.ok_broken | exact SH.ok_beyond)
local macro_rules | `(tactic| walk_at "dw") => `(tactic| with_reducible first
  | exact SH.bp_right | exact SH.bp_heard | exact SH.bp_landed | exact SH.bp_told | exact SH.bp_untold | exact SH.bp_unheard | exact SH.bp_present
  | exact SH.op_now | exact SH.op_broken | exact SH.op_beyond)
local macro_rules | `(tactic| walk_at "g2") => `(tactic|
  ((with_reducible refine' SH.g_dpA ?ga ?gb ?gc ?gz); (case ga => walk_at "hp"); (case gb => walk_at "dw"); (case gc => exact SH.szk rfl); intro _ _ _))
local macro_rules | `(tactic| walk_at "sq") => `(tactic|
  ((refine' SH.seqT_put ?gx ?gy ?gz); (case gy => walk_at "hp"); (case gz => exact trivial); (case gx => walk_at "sq")))
local macro_rules | `(tactic| walk_at "g2") => `(tactic|
  ((with_reducible refine' SH.g_ixL ?ga ?gb ?gz); (case ga => walk_at "sq"); (case gb => first | rfl | (apply SH.atI_refs; assumption) | exact SH.atI_cons0)))
/-- the law's dice -/
local macro_rules | `(tactic| walk_at "dc") => `(tactic| first
  | assumption
  | (refine' SH.DiceAt.new ?gx (by assumption); (case gx => walk_at "dc"))
  | (refine' SH.DiceAt.off ?gx (by assumption) ?gy; (case gx => walk_at "dc"); (case gy => walk_at "nin")))
local macro_rules | `(tactic| walk_at "g2") => `(tactic| first
  | ((with_reducible refine' SH.g_roll ?ga ?gb ?gc ?gd ?gz); (case ga => walk_at "dc"); (case gb => omega); (case gc => omega); (case gd => omega); intro _ _ _ _ _ _))
namespace SH
open PySem PySem.Spec PyProof.Rows L2
def spStep (K : PySem.W.Frag) : Sp := fun vs H Q _ => ∃ (a d : Addr) (T : List Addr) (bs : List Addr) (s : Sea) (c cD : Int), vs = [.ref a, .ref d] ∧ DiceAt H a cD ∧ cD ≤ 100000000 ∧ OwnAt T H d bs s ∧ a ∈ T ∧ s.Good c.toNat ∧ 
  ∀ H' v st, StepAt K H' v st → st.ok bs.length → DiceAt H' a (cD + 10) → Off [a] H H' → Q v H'
section
variable {P : Program} {w : World} {K : PySem.W.Frag} {mg : Str → Option Value} {base : Heap}
theorem trade_to {b x n : Int} (h0 : 0 ≤ b) (h1 : b < n) (x0 : 0 ≤ x) (x1 : x < n - 1) : 0 ≤ (b + 1 + x) % n ∧ (b + 1 + x) % n < n ∧ (b + 1 + x) % n ≠ b := by
  refine ⟨Int.emod_nonneg _ (by omega), Int.emod_lt_of_pos _ (by omega), ?_⟩
  by_cases h : b + 1 + x < n
  · rw [Int.emod_eq_of_lt (by omega) h]; omega
  · have e : (b + 1 + x) % n = (b + 1 + x - n) % n := by rw [Int.sub_emod_right]
    rw [e, Int.emod_eq_of_lt (by omega) (by omega)]; omega
theorem ok_law_n_step (T : Txt P w K mg) : DefOk P w K mg base "_law_n_step" 3 ["dice", "season"] (spStep K) := by
  refine T.d_law_n_step.ok sc_law_n_step (fun _ _ _ _ _ _ us hl => match us, hl with | [_, _], _ => rfl) (fun vs H Q E h => ?_) (fun f cdv A outer s H vs Q E hr h => ?_)
  · obtain ⟨a, d, T0, bs, s, c, cD, rfl, _⟩ := h
    rfl
  · obtain ⟨a, d, T0, bs, s, c, cD, rfl, hd, hcD, ho, haT, hg, q⟩ := h
    have B := T.blt
    have hu := hu_of hr
    have G_law_roll := ok_law_roll (base := base) T
    have G_law_pick := ok_law_pick (base := base) T
    refine ⟨_, (pss_cons (ps_par (i := 2) (j := 3) (by rfl) sc_law_n_step.nd rfl rfl (by decide) rfl rfl (pa_cons (pe_df G_law_roll (hr.mono (by decide)) (L2N.passes_call (L2N.takes_of rfl rfl rfl rfl) fun _ _ _ _ z => z) (pa_cons (pv 0) (pa_cons pe_int pa_nil))) (pa_cons (pe_callB (c_lenK (K := K) rfl) (by rfl) B.b_len PySem.boot_len (pa_cons (pe_dget hu (pv 1) pe_str (fun _ _ => rfl)) pa_nil)) pa_nil)) (by rfl))
  (pss_cons (ps_set (i := 4) sc_law_n_step.nd rfl (by first | exact Or.inl rfl | exact Or.inr rfl) (pe_df G_law_roll (hr.mono (by decide)) (L2N.passes_call (L2N.takes_of rfl rfl rfl rfl) fun _ _ _ _ z => z) (pa_cons (pv 0) (pa_cons (pv 3) pa_nil))))
  (pss_cons (ps_if (pt_cmpR op_lt (pv 2) pe_int (nomark _))
    (pss_one (ps_ret (pe_tup (pa_cons pe_str (pa_cons (pv 4) (pa_cons (pe_callB (c_min2 rfl) (by rfl) B.b_min (by decide +kernel) (pa_cons pe_int (pa_cons (pe_op op_add pe_int (pe_df G_law_pick (hr.mono (by decide)) (L2N.passes_call (L2N.takes_of rfl rfl rfl rfl) fun _ _ _ _ z => z) (pa_cons (pv 0) (pa_cons (pe_lst (pa_cons pe_int (pa_cons (pe_op op_sub (pe_ix (ix_listK (K := K) rfl) (pe_dget hu (pv 1) pe_str (fun _ _ => rfl)) pe_int (fun _ _ => rfl)) pe_int) (pa_cons (pe_df G_law_roll (hr.mono (by decide)) (L2N.passes_call (L2N.takes_of rfl rfl rfl rfl) fun _ _ _ _ z => z) (pa_cons (pv 0) (pa_cons pe_int pa_nil))) pa_nil)))) pa_nil)))) pa_nil))) pa_nil))))))
    pss_nil)
  (pss_cons (ps_if (pt_cmpR op_lt (pv 2) pe_int (nomark _))
    (pss_one (ps_ret (pe_tup (pa_cons pe_str (pa_cons (pv 4) pa_nil)))))
    pss_nil)
  (pss_cons (ps_if (pt_cmpR op_lt (pv 2) pe_int (nomark _))
    (pss_one (ps_ret (pe_tup (pa_cons pe_str (pa_cons (pv 4) pa_nil)))))
    pss_nil)
  (pss_cons (ps_if (PW.pt (pw_and (pt_cmpR op_lt (pv 2) pe_int (nomark _)) (pw_and1 (pt_cmpR op_gt (pv 3) pe_int (nomark _)))))
    (pss_cons (ps_set (i := 5) sc_law_n_step.nd rfl (by first | exact Or.inl rfl | exact Or.inr rfl) (pe_ix (ix_listK (K := K) rfl) (pe_dget hu (pv 1) pe_str (fun _ _ => rfl)) (pv 4) (fun _ _ => rfl)))
  (pss_cons (ps_set (i := 6) sc_law_n_step.nd rfl (by first | exact Or.inl rfl | exact Or.inr rfl) (pe_op op_sub (pe_op op_sub (pe_dget hu (pv 5) pe_str (fun _ _ => rfl)) (pe_dget hu (pv 5) pe_str (fun _ _ => rfl))) (pe_ix (ix_listK (K := K) rfl) (pe_dget hu (pv 1) pe_str (fun _ _ => rfl)) pe_int (fun _ _ => rfl))))
  (pss_one (ps_ret (pe_tup (pa_cons pe_str (pa_cons (pv 4) (pa_cons (pe_op op_modN (pe_callTy c_int (by rfl) B.b_int (by decide +kernel) (pa_cons (pe_op op_add (pe_op op_add (pv 4) pe_int) (pe_df G_law_roll (hr.mono (by decide)) (L2N.passes_call (L2N.takes_of rfl rfl rfl rfl) fun _ _ _ _ z => z) (pa_cons (pv 0) (pa_cons (pe_op op_sub (pv 3) pe_int) pa_nil)))) pa_nil)) (pv 3)) (pa_cons (pe_callB (c_max2 rfl) (by rfl) B.b_max (by decide +kernel) (pa_cons pe_int (pa_cons (pe_callB (c_min2 rfl) (by rfl) B.b_min (by decide +kernel) (pa_cons pe_int (pa_cons (pe_df G_law_pick (hr.mono (by decide)) (L2N.passes_call (L2N.takes_of rfl rfl rfl rfl) fun _ _ _ _ z => z) (pa_cons (pv 0) (pa_cons (pe_lst (pa_cons (pv 6) (pa_cons (pv 6) (pa_cons (pe_op op_add (pv 6) pe_int) (pa_cons pe_int (pa_cons (pe_op op_fdivN (pv 6) pe_int) pa_nil)))))) pa_nil))) pa_nil))) pa_nil))) pa_nil)))))))))
    pss_nil)
  (pss_one (ps_ret (pe_tup (pa_cons pe_str pa_nil)))))))))), ?_⟩
    have hlen := Paired.length ho.boats
    have hb0 : 0 < bs.length := by have := hg.len; have := hg.plan.n0; omega
    have hb5 : bs.length ≤ 5 := by have := hg.len; have := hg.plan.n1; omega
    have hm0 := hg.plan.m0
    have hm1 := hg.plan.m1
    obtain ⟨⟨ow, pp, bl, be, h1, h2, h3, h4, h5, h6, h7, h8⟩, hbs, nd, dT, lv⟩ := ho
    have nda : d ≠ a := fun z => dT (z ▸ haT)
    have noa : ow ≠ a := fun z => h6 (z ▸ haT)
    have nla : bl ≠ a := fun z => h7 (z ▸ haT)
    have elm : (bs.map V.ref).length = bs.length := List.length_map ..
    walk_at "go"
    rename_i lot H1 r0 r1 d1 o1 bo H2 s0 s1 d2 o2
    have i1 : H2 d = some (.dK (ownK ow s.now bl s.broken be)) := by walk_at "hp"
    have i2 : H2 ow = some (.lst [.ref pp, .int s.most, .int s.late, .int s.reserve]) := by walk_at "hp"
    have i4 : H2 bl = some (.lst (bs.map V.ref)) := by walk_at "hp"
    have o12 : Off [a] H H2 := o1.trans o2
    clear h1 h2 h4 o1 o2 d1
    have hbl : bo.toNat < bs.length := by omega
    obtain ⟨b, t, u, k, f1, f2, f3, f4, f5, g4, g5, g6⟩ := boat_at hbs hbl
    have nba : b ≠ a := fun z => g6 (z ▸ haT)
    have i6 := o12.at (by simpa using nba) f3
    have ebo : ((bo.toNat : Nat) : Int) = bo := Int.toNat_of_nonneg s0
    walk_at "go"
    refine br_d (fun c1 => ?_) (fun c1 => ?_)
    · walk_at "go"
      rename_i r1 H3 r10 r11 d3 o3 p3 hp3
      refine g_pick (ns := [0, s.most - 1, r1]) 0 19 hp3 d3 (by omega) (by simp; omega) (by simp) (by simp) fun x H5 hk k0 k1 d5 o5 => ?_
      walk_at "go"
      rename_i p6 hp6
      have o2' : Off [a] H H5 := (o12.trans o3).trans ((Off.new hp3).trans o5)
      refine q _ _ (.land bo.toNat (if 1 + x < 20 then 1 + x else 20)) ⟨p6, rfl, .of ?_⟩ ⟨hbl, ?_, ?_⟩ ((d5.new hp6).mono (by omega)) (o2'.new2 hp6)
      · show upd H5 p6 _ p6 = some (.tup [.str "land", .int ((bo.toNat : Nat) : Int), .int _])
        rw [ebo]; exact upd_same
      · split <;> omega
      · split <;> omega
    · walk_at "go"
      refine br_d (fun c2 => ?_) (fun c2 => ?_)
      · walk_at "go"
        rename_i p6 hp6
        refine q _ _ (.tell bo.toNat) ⟨p6, rfl, .of ?_⟩ hbl ((d2.new hp6).mono (by omega)) (o12.new2 hp6)
        show upd H2 p6 _ p6 = some (.tup [.str "tell", .int ((bo.toNat : Nat) : Int)])
        rw [ebo]; exact upd_same
      · walk_at "go"
        refine br_d (fun c3 => ?_) (fun c3 => ?_)
        · walk_at "go"
          rename_i p6 hp6
          refine q _ _ (.hear bo.toNat) ⟨p6, rfl, .of ?_⟩ hbl ((d2.new hp6).mono (by omega)) (o12.new2 hp6)
          show upd H2 p6 _ p6 = some (.tup [.str "hear", .int ((bo.toNat : Nat) : Int)])
          rw [ebo]; exact upd_same
        · walk_at "go"
          have tk : ∀ p6, H2 p6 = none → Q (.ref p6) (upd H2 p6 (.tup [.str "tick"])) := fun p6 hp6 =>
            q _ _ .tick ⟨p6, rfl, .of upd_same⟩ trivial ((d2.new hp6).mono (by omega)) (o12.new2 hp6)
          refine br_d (fun c4 => ?_) (fun c4 => ?_)
          · walk_at "go"
            refine br_d (fun c5 => ?_) (fun c5 => ?_)
            · have e7 : atI (bs.map V.ref) bo = some (.ref b) := by rw [← ebo]; exact atI_refs f1
              walk_at "go"
              refine g_ixL (.of i4) e7 ?_
              walk_at "go"
              rename_i x1 H3 x10 x11 d3 o3 p3 hp3
              refine g_pick (ns := [t.right - t.told - s.reserve, t.right - t.told - s.reserve, t.right - t.told - s.reserve + 1, 1, (t.right - t.told - s.reserve).fdiv 2]) (-(1 + ((t.right - t.told - s.reserve).natAbs : Int))) (1 + ((t.right - t.told - s.reserve).natAbs : Int)) hp3 d3 (by omega) ?_ (by simp) (by simp) fun x H5 hk k0 k1 d5 o5 => ?_
              · generalize t.right - t.told - s.reserve = z
                have e2 := Int.fdiv_eq_ediv_of_nonneg z (show (0 : Int) ≤ 2 by omega)
                intro k hk
                simp only [List.mem_cons, List.not_mem_nil, or_false] at hk
                rcases hk with rfl | rfl | rfl | rfl | rfl <;> omega
              walk_at "go"
              rename_i p6 hp6
              have o2' : Off [a] H H5 := (o12.trans o3).trans ((Off.new hp3).trans o5)
              have e8 := Int.fmod_eq_emod_of_nonneg (bo + 1 + x1) (show (0 : Int) ≤ ((bs.map V.ref).length : Int) by omega)
              have e9 := trade_to s0 s1 x10 x11
              rw [e8]
              obtain ⟨y0, y1, y2⟩ := e9
              generalize (bo + 1 + x1) % ((bs.map V.ref).length : Int) = y at *
              have ey : ((y.toNat : Nat) : Int) = y := Int.toNat_of_nonneg y0
              refine q _ _ (.trade bo.toNat y.toNat (if (if x < 500 then x else 500) > 1 then if x < 500 then x else 500 else 1)) ⟨p6, rfl, .of ?_⟩ ⟨hbl, ?_, ?_, ?_, ?_⟩ ((d5.new hp6).mono (by omega)) (o2'.new2 hp6)
              · show upd H5 p6 _ p6 = some (.tup [.str "trade", .int ((bo.toNat : Nat) : Int), .int ((y.toNat : Nat) : Int), .int _])
                rw [ebo, ey]; exact upd_same
              · omega
              · omega
              · split <;> split <;> omega
              · split <;> split <;> omega
            · walk_at "go"
              rename_i p6 hp6
              exact tk p6 hp6
          · walk_at "go"
            rename_i p6 hp6
            exact tk p6 hp6
end
end SH
end

section
/-! #### the walk's words -/
local macro_rules | `(tactic| walk_at "ne0") => `(tactic| first
  | assumption
  | (refine Ne.symm ?_; assumption))
local macro_rules | `(tactic| walk_at "ne") => `(tactic| first
  | assumption
  | (refine Ne.symm ?_; assumption)
  | (refine' L2.ne_of_none ?gx (by assumption); (case gx => walk_at "hp"))
  | (refine' Ne.symm (L2.ne_of_none ?gx (by assumption)); (case gx => walk_at "hp")))
local macro_rules | `(tactic| walk_at "hp") => `(tactic| first
  | assumption
  | exact L2.upd_same
  | (refine' SH.upd_new ?gh (by assumption); (case gh => walk_at "hp"))
  | (refine' (L2.upd_ne ?gn).trans ?gh; (case gn => walk_at "ne0"); (case gh => walk_at "hp"))
  | (refine' SH.Off.at (by assumption) ?gn ?gh; (case gn => walk_at "nin"); (case gh => walk_at "hp")))
local macro_rules | `(tactic| walk_at "nin") => `(tactic| first
  | exact SH.nin_nil
  | (refine SH.nin_cons ?_ ?_; (· walk_at "ne0"); (· walk_at "nin")))
local macro_rules | `(tactic| walk_at "sq") => `(tactic| first
  | assumption
  | (apply L2.SqL.of; (· walk_at "hp"))
  | (apply L2.SqT.of; (· walk_at "hp"))
  | (refine' SH.seqT_new ?gx (by assumption); (case gx => walk_at "sq"))
  | (refine' SH.seqL_new ?gx (by assumption); (case gx => walk_at "sq"))
  | (refine' SH.Off.seqT (by assumption) ?gx; (case gx => walk_at "sq"))
  | (refine' SH.Off.seqL (by assumption) ?gy ?gx; (case gx => walk_at "sq"); (case gy => walk_at "nin")))
local macro_rules | `(tactic| walk_at "kd") => `(tactic| first
  | assumption | exact SH.KdV.int _ | exact SH.KdV.bl _ | exact SH.KdV.str _ | exact SH.KdV.non
  | (apply SH.KdV.tup; (· walk_at "sq")) | (apply SH.KdV.lst; (· walk_at "sq")))
/-- a way that cannot be -/
local macro_rules | `(tactic| walk_at "no") => `(tactic| (exfalso; first | assumption | omega | contradiction | (simp_all; done)))
/-- one step -/
local macro_rules | `(tactic| walk_at "g1") => `(tactic| with_reducible first
  | refine SH.g_var (by with_unfolding_all rfl) ?_ | refine SH.g_c ?_ | refine SH.g_op ?_ | refine SH.g_un ?_ | refine SH.g_I0 ?_ | refine SH.g_U ?_
  | refine SH.g_eqI ?_ | refine SH.g_neI ?_ | refine SH.g_eqS ?_ | refine SH.g_neS ?_
  | refine SH.g_test ?_ | refine SH.g_B ?_ | refine SH.g_isB ?_ | refine SH.g_and ?_ | refine SH.g_or ?_ | refine SH.g_not ?_ | refine SH.g_andV ?_ | refine SH.g_orV ?_ | refine SH.g_notV ?_ | refine SH.g_ifE ?_ | refine SH.g_chain ?_
  | refine SH.g_nil ?_ | refine SH.g_cons ?_ | refine SH.g_tup ?_ | refine SH.g_lst ?_ | refine SH.g_call ?_ | refine SH.g_fld ?_ | refine SH.g_meth ?_ | refine SH.g_make ?_ | refine SH.g_cb ?_ | refine SH.g_bm ?_
  | refine SH.g_seq ?_ | refine SH.g_asg ?_ | refine SH.g_name ?_ | refine SH.g_drop ?_ | refine SH.g_ret ?_ | refine SH.g_retN ?_ | refine SH.g_next ?_ | refine SH.g_brk ?_ | refine SH.g_cnt ?_ | refine SH.g_ifs ?_ | refine SH.g_par ?_ | refine SH.g_par2 ?_ | refine SH.g_fldS ?_ | refine SH.g_raise ?_ | refine SH.g_rs ?_
  | refine SH.g_sub ?_ | refine SH.g_yes ?_ | refine SH.g_sl ?_ | refine SH.g_noPart ?_ | refine SH.g_part ?_ | refine SH.g_intO ?_ | refine SH.g_dget ?_ | refine SH.g_dput ?_ | refine SH.g_forR ?_ | refine SH.g_forL ?_ | refine SH.g_forT ?_ | refine SH.g_lcR ?_ | refine SH.g_lcL ?_ | refine SH.g_lcT ?_ | refine SH.g_gcons ?_ | refine SH.g_gnil ?_
  | refine SH.br_t ?_ | refine SH.br_f ?_
  | refine SH.g_int ?_ | refine SH.g_abs ?_ | refine SH.g_max2 ?_ | refine SH.g_min2 ?_)
local macro_rules | `(tactic| walk_at "g2") => `(tactic| first
  | walk_at "g1"
  | ((with_reducible refine' SH.g_isiInt ?ga ?gz); (case ga => walk_at "kd"))
  | ((with_reducible refine' SH.g_isiBool ?ga ?gz); (case ga => walk_at "kd"))
  | ((with_reducible refine' SH.g_isiStr ?ga ?gz); (case ga => walk_at "kd"))
  | ((with_reducible refine' SH.g_isiTup ?ga ?gz); (case ga => walk_at "kd"))
  | ((with_reducible refine' SH.g_ixT ?ga ?gb ?gz); (case ga => walk_at "sq"); (case gb => rfl))
  | ((with_reducible refine' SH.g_ixL ?ga ?gb ?gz); (case ga => walk_at "sq"); (case gb => first | rfl | (apply SH.atI_refs; assumption)))
  | ((with_reducible refine SH.br_F ?_ ?_); (· decide +kernel)) | ((with_reducible refine SH.br_T ?_ ?_); (· decide +kernel)) | ((with_reducible refine SH.br_NF ?_ ?_); (· decide +kernel)) | ((with_reducible refine SH.br_NT ?_ ?_); (· decide +kernel))
  | ((with_reducible refine' SH.g_gtup ?ga ?gb ?gz); (case ga => walk_at "sq"); (case gb => rfl))
  | ((with_reducible refine' SH.g_lenT ?ga ?gz); (case ga => walk_at "sq"))
  | ((with_reducible refine' SH.g_lenL ?ga ?gz); (case ga => walk_at "sq"))
  | ((with_reducible refine SH.g_mkT (SH.sz rfl) ?_); intro _ _)
  | ((with_reducible refine SH.g_mkL (SH.sz rfl) ?_); intro _ _)
  | ((with_reducible refine SH.g_dnew ?_); intro _ _)
  | ((with_reducible refine' SH.g_tupL ?ga ?gz); (case ga => walk_at "sq"); intro _ _)
  | ((with_reducible refine' SH.g_lstL ?ga ?gz); (case ga => walk_at "sq"); intro _ _)
  | ((with_reducible refine' SH.g_lstT ?ga ?gz); (case ga => walk_at "sq"); intro _ _)
  | ((with_reducible refine' SH.g_dgR ?ga ?gb ?gz); (case ga => walk_at "hp"); (case gb => walk_at "dv"))
  | ((with_reducible refine' SH.g_fldR ?ga ?gb ?gc ?gd ?gz); (case ga => walk_at "hp"); (case gb => walk_at "cl"); (case gc => walk_at "na"); (case gd => walk_at "fv"))
  | ((with_reducible refine' SH.g_insR ?ga ?gb ?gz); (case ga => walk_at "hp"); (case gb => walk_at "fn"))
  | ((with_reducible refine' SH.g_setL ?ga ?gb ?gz); (case ga => walk_at "hp"); (case gb => rfl))
  | ((with_reducible refine SH.g_I ?_ ?_); (· walk_at "ci"))
  | ((with_reducible refine' SH.g_slL ?ga ?gz); (case ga => walk_at "sq"); intro _ _)
  | ((with_reducible refine' SH.g_cat ?ga ?gb ?gc ?gz); (case ga => walk_at "hp"); (case gb => walk_at "hp"); (case gc => walk_at "ls"); intro _ _))
/-- the side conditions of numbers: a divisor, a factor -/
local macro_rules | `(tactic| walk_at "ci") => `(tactic| first
  | (show _ ≠ _; omega) | (show _ < _; omega) | (constructor <;> omega) | (refine Or.inr ⟨?_, ?_⟩ <;> (show _ < _; omega)) | (refine Or.inl ⟨?_, ?_⟩ <;> (show _ < _; omega)) | (refine ⟨?_, ?_, ?_⟩ <;> decide))
local macro_rules | `(tactic| walk_at "ls") => `(tactic| first | (show _ ≤ _; exact Nat.le_trans (by assumption) (by decide)) | (show _ ≤ _; exact Nat.le_trans (by simp; omega) (by decide : 1000 ≤ sizeLine)))
local macro_rules | `(tactic| walk_at "dv") => `(tactic| rfl)
local macro_rules | `(tactic| walk_at "fv") => `(tactic| rfl)
local macro_rules | `(tactic| walk_at "fn") => `(tactic| rfl)
local macro_rules | `(tactic| walk_at "cl") => `(tactic| assumption)
local macro_rules | `(tactic| walk_at "na") => `(tactic| assumption)
local macro_rules | `(tactic| walk_at "go") => `(tactic| repeat walk_at "g2")
/-- a way is split -/
local macro_rules | `(tactic| walk_at "br") => `(tactic| with_reducible first
  | refine SH.br_d (fun _ => ?_) (fun _ => ?_) | refine SH.br_nd (fun _ => ?_) (fun _ => ?_) | refine SH.br_b (fun _ => ?_) (fun _ => ?_))
/-- all ways -/
local macro_rules | `(tactic| walk_at "all") => `(tactic| repeat' first | walk_at "g2" | (walk_at "br" <;> try (walk_at "no")))
/-- a truth value is the other -/
local macro_rules | `(tactic| walk_at "bq") => `(tactic| first | rfl | (simp_all; done) | (simp_all; omega) | (simp only [decide_eq_true_eq, decide_eq_false_iff_not, Bool.and_eq_true, Bool.or_eq_true] at *; omega))
/-- what was tracked is as it was -/
local macro_rules | `(tactic| walk_at "of") => `(tactic| first
  | assumption
  | exact SH.Off.refl _ _
  | (refine' SH.Off.new2 ?gx (by assumption); (case gx => walk_at "of"))
  | (refine' SH.Off.mut ?gx (by assumption); (case gx => walk_at "of"))
  | (refine' SH.Off.trans' ?gx (by assumption) ?gy; (case gy => (intro _ h; (first | exact h | (simp at h; done) | (simp at h ⊢; simp [h]; done)))); (case gx => walk_at "of")))
/-- the own season's dicts -/
local macro_rules | `(tactic| walk_at "dv") => `(tactic| with_reducible first
  | exact SH.bk_right | exact SH.bk_heard | exact SH.bk_landed | exact SH.bk_told | exact SH.bk_untold | exact SH.bk_unheard | exact SH.bk_present
  | exact SH.ok_own | exact SH.ok_now | exact SH.ok_boats | exact SH.ok_broken | exact SH.ok_beyond)
local macro_rules | `(tactic| walk_at "dw") => `(tactic| with_reducible first
  | exact SH.bp_right | exact SH.bp_heard | exact SH.bp_landed | exact SH.bp_told | exact SH.bp_untold | exact SH.bp_unheard | exact SH.bp_present
  | exact SH.op_now | exact SH.op_broken | exact SH.op_beyond)
local macro_rules | `(tactic| walk_at "g2") => `(tactic|
  ((with_reducible refine' SH.g_dpA ?ga ?gb ?gc ?gz); (case ga => walk_at "hp"); (case gb => walk_at "dw"); (case gc => exact SH.szk rfl); intro _ _ _))
local macro_rules | `(tactic| walk_at "sq") => `(tactic|
  ((refine' SH.seqT_put ?gx ?gy ?gz); (case gy => walk_at "hp"); (case gz => exact trivial); (case gx => walk_at "sq")))
local macro_rules | `(tactic| walk_at "g2") => `(tactic|
  ((with_reducible refine' SH.g_ixL ?ga ?gb ?gz); (case ga => walk_at "sq"); (case gb => first | rfl | (apply SH.atI_refs; assumption) | exact SH.atI_cons0)))
/-- the law's dice -/
local macro_rules | `(tactic| walk_at "dc") => `(tactic| first
  | assumption
  | (refine' SH.DiceAt.new ?gx (by assumption); (case gx => walk_at "dc"))
  | (refine' SH.DiceAt.off ?gx (by assumption) ?gy; (case gx => walk_at "dc"); (case gy => walk_at "nin")))
local macro_rules | `(tactic| walk_at "g2") => `(tactic| first
  | ((with_reducible refine' SH.g_roll ?ga ?gb ?gc ?gd ?gz); (case ga => walk_at "dc"); (case gb => omega); (case gc => omega); (case gd => omega); intro _ _ _ _ _ _))
namespace SH
open PySem PySem.Spec PyProof.Rows L2
structure OwnL (H : Hp) (l sh : Addr) (ss : List Int) (most late reserve : Int) : Prop where
  at_ : H l = some (.lst [.ref sh, .int most, .int late, .int reserve])
  sh_ : TupN H sh (ss.map V.int)
  ok : PlanOk ss most late reserve
theorem OwnL.off {S : List Addr} {H H' : Hp} {l sh : Addr} {ss : List Int} {most late reserve : Int} (h : OwnL H l sh ss most late reserve) (o : Off S H H') (n : l ∉ S) : OwnL H' l sh ss most late reserve := ⟨o.at n h.at_, h.sh_.off o, h.ok⟩
/-- values that are all steps of a form -/
def AllSt (K : PySem.W.Frag) (n : Nat) (H : Hp) (xs : List V) : Prop := ∀ x ∈ xs, ∃ st, StepAt K H x st ∧ st.ok n
theorem AllSt.off {K : PySem.W.Frag} {n : Nat} {S : List Addr} {H H' : Hp} {xs : List V} (h : AllSt K n H xs) (o : Off S H H') : AllSt K n H' xs := fun x hx => by
  obtain ⟨st, a, b⟩ := h x hx
  exact ⟨st, a.off o, b⟩
theorem AllSt.sub {K : PySem.W.Frag} {n : Nat} {H : Hp} {xs ys : List V} (h : AllSt K n H xs) (s : ∀ y ∈ ys, y ∈ xs) : AllSt K n H ys := fun y hy => h y (s y hy)
theorem AllSt.app {K : PySem.W.Frag} {n : Nat} {H : Hp} {xs ys : List V} (h : AllSt K n H xs) (h2 : AllSt K n H ys) : AllSt K n H (xs ++ ys) := fun y hy => (List.mem_append.mp hy).elim (h y) (h2 y)
theorem AllSt.one {K : PySem.W.Frag} {n : Nat} {H : Hp} {x : V} {st : Stp} (h : StepAt K H x st) (ok : st.ok n) : AllSt K n H [x] := fun y hy => by
  rw [List.mem_singleton.mp hy]
  exact ⟨st, h, ok⟩
theorem cut_mem {xs : List V} {lo hi : Option Int} : ∀ y ∈ cutV xs lo hi, y ∈ xs := fun y hy => List.mem_of_mem_drop (List.mem_of_mem_take hy)
theorem AllSt.cut {K : PySem.W.Frag} {n : Nat} {H : Hp} {xs : List V} {lo hi : Option Int} (h : AllSt K n H xs) : AllSt K n H (cutV xs lo hi) := h.sub cut_mem
theorem AllSt.of {K : PySem.W.Frag} {n : Nat} {H : Hp} : ∀ {xs : List V} {sts : List Stp}, StepsAt K H xs sts → (∀ st ∈ sts, st.ok n) → AllSt K n H xs
  | _, _, .nil, _ => fun _ z => by cases z
  | _, _, .cons r t, h => fun y hy => by
    rcases List.mem_cons.mp hy with rfl | hy
    · exact ⟨_, r, h _ List.mem_cons_self⟩
    · exact AllSt.of t (fun st z => h st (List.mem_cons_of_mem _ z)) y hy
theorem AllSt.list {K : PySem.W.Frag} {n : Nat} {H : Hp} : ∀ {xs : List V}, AllSt K n H xs → ∃ sts, StepsAt K H xs sts ∧ ∀ st ∈ sts, st.ok n
  | [], _ => ⟨[], .nil, by simp⟩
  | x :: xs, h => by
    obtain ⟨st, a, b⟩ := h x List.mem_cons_self
    obtain ⟨sts, c, d⟩ := AllSt.list (xs := xs) fun y hy => h y (List.mem_cons_of_mem _ hy)
    exact ⟨st :: sts, .cons a c, fun z hz => (List.mem_cons.mp hz).elim (fun e => e ▸ b) (d z)⟩
theorem AllSt.rep {K : PySem.W.Frag} {n : Nat} {H : Hp} {xs : List V} (h : AllSt K n H xs) (k : Nat) : AllSt K n H (List.replicate k xs).flatten := fun y hy => by
  obtain ⟨l, hl, hy⟩ := List.mem_flatten.mp hy
  rw [List.eq_of_mem_replicate hl] at hy
  exact h y hy
theorem bey_nilL (bl bm : Bool) : PyData.eqv (.list ((beyL bl bm).map PyData.str)) (.list []) = (!bl && !bm) := by cases bl <;> cases bm <;> kernel_rfl
def spBrX (K : PySem.W.Frag) : Sp := fun vs H Q _ => ∃ (l sh : Addr) (ss : List Int) (most late reserve : Int) (t : Addr) (xs : List V) (sts : List Stp), vs = [.ref l, .ref t] ∧ OwnL H l sh ss most late reserve ∧ SqT K H t xs ∧ StepsAt K H xs sts ∧ (∀ st ∈ sts, st.ok ss.length) ∧ sts.length ≤ 5000 ∧
  ∀ H', Off [] H H' → Q (.bl (verd (Sea.new ss most late reserve) (sts.map some))) H'
theorem verd_stop {s : Sea} {sts : List Stp} (h : s.plays (sts.map some) = none) : verd s (sts.map some) = false := by
  unfold verd
  rw [h]
theorem verd_end {s z : Sea} {sts : List Stp} (h : s.plays (sts.map some) = some z) : verd s (sts.map some) = (z.broken && !z.bl && !z.bm) := by
  unfold verd
  rw [h]
section
variable {P : Program} {w : World} {K : PySem.W.Frag} {mg : Str → Option Value} {base : Heap}
theorem ok_law_n_breach (T : Txt P w K mg) : DefOk P w K mg base "_law_n_breach" 4 ["own", "steps"] (spBrX K) := by
  refine T.d_law_n_breach.ok sc_law_n_breach (fun _ _ _ _ _ _ us hl => match us, hl with | [_, _], _ => rfl) (fun vs H Q E h => ?_) (fun f cdv A outer s H vs Q E hr h => ?_)
  · obtain ⟨l, sh, ss, most, late, reserve, t, xs, sts, rfl, _⟩ := h
    rfl
  · obtain ⟨l, sh, ss, most, late, reserve, t, xs, sts, rfl, hl, ht, hst, hok, hlen, q⟩ := h
    have B := T.blt
    have hu := hu_of hr
    have G_law_n_new := ok_law_n_new (base := base) T
    have G_law_n_do := ok_law_n_do (base := base) T
    have G_law_n_can := ok_law_n_can (base := base) T
    refine ⟨_, (pss_cons (ps_set (i := 2) sc_law_n_breach.nd rfl (by first | exact Or.inl rfl | exact Or.inr rfl) (pe_df G_law_n_new (hr.mono (by decide)) (L2N.passes_call (L2N.takes_of rfl rfl rfl rfl) fun _ _ _ _ z => z) (pa_cons (pv 0) pa_nil)))
  (pss_cons (ps_for (passes_of rfl) rfl (pi_tupK (K := K) rfl (pv 1)) (pg_name (i := 3) sc_law_n_breach.nd rfl (by first | exact Or.inl rfl | exact Or.inr rfl))
    (pss_cons (ps_if (pt_not (pt_val (pe_df G_law_n_can (hr.mono (by decide)) (L2N.passes_call (L2N.takes_of rfl rfl rfl rfl) fun _ _ _ _ z => z) (pa_cons (pv 2) (pa_cons (pv 3) pa_nil))) (by intro _; rfl)))
    (pss_one (ps_ret pe_bl))
    pss_nil)
  (pss_one (ps_expr (pe_df G_law_n_do (hr.mono (by decide)) (L2N.passes_call (L2N.takes_of rfl rfl rfl rfl) fun _ _ _ _ z => z) (pa_cons (pv 2) (pa_cons (pv 3) pa_nil)))))))
  (pss_one (ps_ret (pe_and (pe_dget hu (pv 2) pe_str (fun _ _ => rfl)) (pe_one (pe_cmpR (op_eqDK (K := K) rfl hr.units) (pe_dget hu (pv 2) pe_str (fun _ _ => rfl)) (pe_lst pa_nil) (nomark _)))))))), ?_⟩
    have hxl : xs.length = sts.length := Paired.length hst
    walk_at "go"
    refine ⟨l, sh, ss, most, late, reserve, [], rfl, hl.at_, hl.sh_, hl.ok, by simp, by simp, fun H1 d bs own hnew o1 => ?_⟩
    walk_at "go"
    have hg := Sea.new_good hl.ok
    have hbl : bs.length = ss.length := by
      rw [Paired.length own.boats]
      simp [Sea.new]
    generalize Sea.new ss most late reserve = s0 at *
    refine forT_mk (fun i σ H2 => ∃ b z, σ = [some (.ref l), some (.ref t), some (.ref d), b] ∧ OwnAt [] H2 d bs z ∧ Off [] H H2 ∧ s0.plays (sts.map some) = z.plays ((sts.drop i).map some) ∧ z.Good i) (o1.seqT ht) ⟨none, s0, rfl, own, o1, rfl, hg⟩ (fun i σ H2 hi hP => ?_) (fun i x σ H2 he hP => ?_) (fun σ H2 hP => ?_)
    · obtain ⟨_, _, _, _, oo, _⟩ := hP
      exact oo.seqT ht
    · obtain ⟨b, z, rfl, ow, oo, ep, gz⟩ := hP
      have il : i < sts.length := by
        have := (List.getElem?_eq_some_iff.mp he).1
        omega
      obtain ⟨x', e1, e2⟩ := paired_get (i := i) (x := sts[i]'il) hst (List.getElem?_eq_getElem il)
      rw [he] at e1
      cases e1
      have est : sts[i]? = some (sts[i]'il) := List.getElem?_eq_getElem il
      rw [List.drop_eq_getElem_cons il, List.map_cons] at ep
      generalize sts[i]'il = st at *
      have okb := hok st (List.mem_of_getElem? est)
      rw [← hbl] at okb
      walk_at "go"
      refine ⟨d, x, [], bs, z, st, i, rfl, ow, e2.off oo, okb, gz, by omega, fun H3 o3 => ?_⟩
      walk_at "go"
      have ep' : s0.plays (sts.map some) = if z.can st = true then (z.do' st).plays ((sts.drop (i + 1)).map some) else none := ep
      refine br_nb (fun can => ?_) (fun can => ?_)
      · walk_at "go"
        have r := q H3 (oo.trans o3)
        rw [if_neg (by rw [can]; exact Bool.false_ne_true)] at ep'
        rw [verd_stop ep'] at r
        exact r
      · walk_at "go"
        refine ⟨d, x, [], bs, z, st, i, rfl, ow.off o3 (by simp), (e2.off oo).off o3, okb, gz, by omega, can, fun H4 ow4 o4 => ?_⟩
        walk_at "go"
        rw [if_pos can] at ep'
        exact ⟨_, _, rfl, ow4, (oo.trans o3).muts o4 fun u hu => .inr (hnew u hu), ep', Sea.do_good gz st⟩
    · obtain ⟨b, z, rfl, ow, oo, ep, gz⟩ := hP
      rw [hxl, List.drop_length] at ep
      have ev := verd_end (z := z) ep
      rw [ev] at q
      obtain ⟨ow1, pp, bl, be, h1, h2, h3, h4, h5, h6, h7, h8⟩ := ow.ex
      walk_at "go"
      refine br_b (fun c => ?_) (fun c => ?_)
      · walk_at "go"
        rename_i p3 hp3
        refine g_eqD (.lst (.of (upd_new h5 hp3)) (strs_dpAll _)) (.lst (.of upd_same) .nil) (by cases z.bl <;> cases z.bm <;> kernel_rfl) (by kernel_rfl) ?_
        rw [bey_nilL]
        have r := q _ (oo.new2 (o := .lst []) hp3)
        rw [c, Bool.true_and] at r
        exact r
      · walk_at "go"
        have r := q H2 oo
        rw [c, Bool.false_and, Bool.false_and] at r
        exact r
end
end SH
namespace SH
open PySem PySem.Spec PyProof.Rows L2
def spBent (K : PySem.W.Frag) : Sp := fun vs H Q _ => ∃ (a l sh : Addr) (ss : List Int) (most late reserve : Int) (t : Addr) (xs : List V) (c : Int), vs = [.ref a, .ref l, .ref t] ∧ DiceAt H a c ∧ c ≤ 10000000 ∧ l ≠ a ∧ OwnL H l sh ss most late reserve ∧ SqT K H t xs ∧ AllSt K ss.length H xs ∧ xs.length ≤ 100 ∧
  ∀ H' r ys, H' r = some (.lst ys) → AllSt K ss.length H' ys → ys.length ≤ 400 → DiceAt H' a (c + 20) → Off [a] H H' → Q (.ref r) H'
local macro_rules | `(tactic| walk_at "kd") => `(tactic| first
  | assumption | exact SH.KdV.int _ | exact SH.KdV.bl _ | exact SH.KdV.str _ | exact SH.KdV.non
  | (apply SH.KdV.tup; (· walk_at "sq")) | (apply SH.KdV.lst; (· walk_at "sq")) | (apply SH.KdV.dct; (· walk_at "hp")))
local macro_rules | `(tactic| walk_at "g2") => `(tactic| with_reducible first | refine SH.g_par3 ?_ | refine SH.g_par33 ?_ | refine SH.g_pnil ?_ | refine SH.g_pcons ?_ | (refine SH.g_disp ?_; intro _ _))
section
variable {P : Program} {w : World} {K : PySem.W.Frag} {mg : Str → Option Value} {base : Heap}
theorem ok_law_bent (T : Txt P w K mg) : DefOk P w K mg base "_law_bent" 4 ["dice", "own", "steps"] (spBent K) := by
  refine T.d_law_bent.ok sc_law_bent (fun _ _ _ _ _ _ us hl => match us, hl with | [_, _, _], _ => rfl) (fun vs H Q E h => ?_) (fun f cdv A outer s H vs Q E hr h => ?_)
  · obtain ⟨a, l, sh, ss, most, late, reserve, t, xs, c, rfl, _⟩ := h
    rfl
  · obtain ⟨a, l, sh, ss, most, late, reserve, t, xs, c, rfl, hd, hc, nla, hl, ht, hst, hlen, q⟩ := h
    have B := T.blt
    have hu := hu_of hr
    have G_law_n_new := ok_law_n_new (base := base) T
    have G_law_roll := ok_law_roll (base := base) T
    have G_law_n_step := ok_law_n_step (base := base) T
    refine ⟨_, (pss_cons (ps_par3 (i := 3) (j := 4) (l := 5) (by rfl) sc_law_bent.nd rfl rfl rfl (by decide) (by decide) (by decide) rfl rfl rfl (pa_cons (pe_df G_law_roll (hr.mono (by decide)) (L2N.passes_call (L2N.takes_of rfl rfl rfl rfl) fun _ _ _ _ z => z) (pa_cons (pv 0) (pa_cons pe_int pa_nil))) (pa_cons (pe_callTy (c_lstK (K := K) rfl) (by rfl) B.b_list (by decide +kernel) (pa_cons (pv 2) pa_nil)) (pa_cons (pe_df G_law_roll (hr.mono (by decide)) (L2N.passes_call (L2N.takes_of rfl rfl rfl rfl) fun _ _ _ _ z => z) (pa_cons (pv 0) (pa_cons (pe_op op_add (pe_callB (c_lenK (K := K) rfl) (by rfl) B.b_len PySem.boot_len (pa_cons (pv 2) pa_nil)) pe_int) pa_nil))) pa_nil))) (by rfl))
  (pss_cons (ps_set (i := 6) sc_law_bent.nd rfl (by first | exact Or.inl rfl | exact Or.inr rfl) (pe_df G_law_n_new (hr.mono (by decide)) (L2N.passes_call (L2N.takes_of rfl rfl rfl rfl) fun _ _ _ _ z => z) (pa_cons (pv 1) pa_nil)))
  (pss_cons (ps_if (pt_cmpR op_eq (pv 3) pe_int (nomark _))
    (pss_one (ps_ret (pe_op op_cat (pe_slice (sl_listK (K := K) rfl) (pv 4) po_none (po_some (pv 5))) (pe_slice (sl_listK (K := K) rfl) (pv 4) (po_some (pe_op op_add (pv 5) pe_int)) po_none))))
    pss_nil)
  (pss_cons (ps_if (pt_cmpR op_eq (pv 3) pe_int (nomark _))
    (pss_one (ps_ret (pe_op op_cat (pe_op op_cat (pe_slice (sl_listK (K := K) rfl) (pv 4) po_none (po_some (pv 5))) (pe_slice (sl_listK (K := K) rfl) (pv 4) (po_some (pv 5)) (po_some (pe_op op_add (pv 5) pe_int)))) (pe_slice (sl_listK (K := K) rfl) (pv 4) (po_some (pv 5)) po_none))))
    pss_nil)
  (pss_cons (ps_if (pt_cmpR op_eq (pv 3) pe_int (nomark _))
    (pss_one (ps_ret (pe_slice (sl_listK (K := K) rfl) (pv 4) po_none (po_some (pv 5)))))
    pss_nil)
  (pss_cons (ps_if (pt_cmpR op_eq (pv 3) pe_int (nomark _))
    (pss_one (ps_ret (pe_op op_cat (pe_op op_cat (pe_slice (sl_listK (K := K) rfl) (pv 4) po_none (po_some (pv 5))) (pe_lst (pa_cons (pe_df G_law_n_step (hr.mono (by decide)) (L2N.passes_call (L2N.takes_of rfl rfl rfl rfl) fun _ _ _ _ z => z) (pa_cons (pv 0) (pa_cons (pv 6) pa_nil))) pa_nil))) (pe_slice (sl_listK (K := K) rfl) (pv 4) (po_some (pv 5)) po_none))))
    pss_nil)
  (pss_cons (ps_if (pt_cmpR op_eq (pv 3) pe_int (nomark _))
    (pss_one (ps_ret (pe_op op_cat (pv 4) (pe_op op_rep (pe_lst (pa_cons (pe_tup (pa_cons pe_str pa_nil)) pa_nil)) (pe_op op_add pe_int (pe_df G_law_roll (hr.mono (by decide)) (L2N.passes_call (L2N.takes_of rfl rfl rfl rfl) fun _ _ _ _ z => z) (pa_cons (pv 0) (pa_cons pe_int pa_nil))))))))
    pss_nil)
  (pss_one (ps_ret (pe_op op_cat (pe_op op_cat (pe_slice (sl_listK (K := K) rfl) (pv 4) po_none (po_some (pv 5))) (pe_lst (pa_cons (pe_df G_law_n_step (hr.mono (by decide)) (L2N.passes_call (L2N.takes_of rfl rfl rfl rfl) fun _ _ _ _ z => z) (pa_cons (pv 0) (pa_cons (pv 6) pa_nil))) pa_nil))) (pe_slice (sl_listK (K := K) rfl) (pv 4) (po_some (pe_op op_add (pv 5) pe_int)) po_none))))))))))), ?_⟩
    walk_at "go"
    rename_i way H1 w0 w1 d1 o1 fd0 hfd at_ H2 a0 a1 d2 o2
    have l2 := (hl.off o1 (by simpa using nla)).off ((Off.new hfd).trans o2) (by simpa using nla)
    have nfd : fd0 ≠ a := fun z => by
      obtain ⟨_, _, _, e, _⟩ := d1
      rw [← z, hfd] at e
      cases e
    have f2 : H2 fd0 = some (.lst xs) := o2.at (by simpa using nfd) upd_same
    have oA : Off [a] H H2 := o1.trans ((Off.new hfd).trans o2)
    have st2 := hst.off oA
    have lvT : ∀ u ∈ [a], ∃ o, H2 u = some o := fun u hu => by
      rw [List.mem_singleton.mp hu]
      obtain ⟨_, _, _, e, _⟩ := d2
      exact ⟨_, e⟩
    clear ht o1 o2 hl hd d1 hfd
    refine ⟨l, sh, ss, most, late, reserve, [a], rfl, l2.at_, l2.sh_, l2.ok, lvT, by simpa using nla, fun H3 d bs own hnew o3 => ?_⟩
    have f3 := o3.at nin_nil f2
    have st3 := st2.off o3
    have oB : Off [a] H H3 := oA.trans (o3.mono (by simp))
    have d3 := d2.off o3 nin_nil
    have hbl : bs.length = ss.length := by
      rw [Paired.length own.boats]
      simp [Sea.new]
    have gd := Sea.new_good l2.ok
    clear f2 st2 oA o3 d2 l2 hnew lvT
    have lc : ∀ lo hi, (cutV xs lo hi).length ≤ 100 := fun lo hi => Nat.le_trans (cutV_length xs lo hi) hlen
    have fin : ∀ H' r ys c', H' r = some (.lst ys) → AllSt K ss.length H' ys → ys.length ≤ 400 → DiceAt H' a c' → c' ≤ c + 20 → Off [a] H3 H' → Q (.ref r) H' := fun H' r ys c' e st ln dd cc o => q H' r ys e st ln (dd.mono cc) (oB.trans o)
    clear q
    have nd : fd0 ≠ a := nfd
    walk_at "go"
    refine br_d (fun c0 => ?_) (fun c0 => ?_)
    · walk_at "go"
      rename_i p1 h1 p2 h2
      refine g_cat (upd_new upd_same h2) upd_same (Nat.le_trans (Nat.add_le_add (lc _ _) (lc _ _)) (by decide)) fun p3 h3 => ?_
      have o5 : ∀ z, Off [] H3 (upd (upd (upd H3 p1 _) p2 _) p3 z) := fun _ => ((Off.new h1).new2 h2).new2 h3
      exact fin _ p3 _ _ upd_same ((st3.cut.app st3.cut).off (o5 _)) (by rw [List.length_append]; exact Nat.le_trans (Nat.add_le_add (lc _ _) (lc _ _)) (by decide)) (d3.off (o5 _) nin_nil) (by omega) ((o5 _).mono (by simp))
    walk_at "go"
    refine br_d (fun c1 => ?_) (fun c1 => ?_)
    · walk_at "go"
      rename_i p1 h1 p2 h2
      refine g_cat (upd_new upd_same h2) upd_same (Nat.le_trans (Nat.add_le_add (lc _ _) (lc _ _)) (by decide)) fun p3 h3 => ?_
      walk_at "go"
      rename_i p4 h4
      refine g_cat (upd_new upd_same h4) upd_same (by rw [List.length_append]; exact Nat.le_trans (Nat.add_le_add (Nat.add_le_add (lc _ _) (lc _ _)) (lc _ _)) (by decide)) fun p5 h5 => ?_
      have o5 : ∀ z, Off [] H3 (upd (upd (upd (upd (upd H3 p1 _) p2 _) p3 _) p4 _) p5 z) := fun _ => ((((Off.new h1).new2 h2).new2 h3).new2 h4).new2 h5
      exact fin _ p5 _ _ upd_same (((st3.cut.app st3.cut).app st3.cut).off (o5 _)) (by rw [List.length_append, List.length_append]; exact Nat.le_trans (Nat.add_le_add (Nat.add_le_add (lc _ _) (lc _ _)) (lc _ _)) (by decide)) (d3.off (o5 _) nin_nil) (by omega) ((o5 _).mono (by simp))
    walk_at "go"
    refine br_d (fun c2 => ?_) (fun c2 => ?_)
    · walk_at "go"
      rename_i p1 h1
      have o5 : ∀ z, Off [] H3 (upd H3 p1 z) := fun _ => Off.new h1
      exact fin _ p1 _ _ upd_same (st3.cut.off (o5 _)) (Nat.le_trans (lc _ _) (by decide)) (d3.off (o5 _) nin_nil) (by omega) ((o5 _).mono (by simp))
    walk_at "go"
    refine br_d (fun c3 => ?_) (fun c3 => ?_)
    · walk_at "go"
      rename_i p1 h1
      refine ⟨a, d, [a], bs, _, 0, _, rfl, d3.new h1, by omega, own.off (.new (S := []) h1) (by simp), by simp, gd, fun H4 v st vst vok d4 o4 => ?_⟩
      have np1 : p1 ≠ a := fun z => by
        obtain ⟨_, _, _, e, _⟩ := d3
        rw [← z, h1] at e
        cases e
      have j1 := o4.at (by simpa using np1) upd_same
      have f4 := o4.at (by simpa using nd) (upd_new f3 h1)
      have o34 : Off [a] H3 H4 := (Off.new h1).trans o4
      have st4 := st3.off o34
      have one : AllSt K ss.length H4 [v] := AllSt.one vst (hbl ▸ vok)
      walk_at "go"
      rename_i p2 h2
      refine g_cat (upd_new j1 h2) upd_same (Nat.le_trans (Nat.add_le_add (lc _ _) (Nat.le_refl 1)) (by decide)) fun p3 h3 => ?_
      have f5 := upd_new (o := .lst (cutV xs none (some at_) ++ [v])) (upd_new (o := .lst [v]) f4 h2) h3
      walk_at "go"
      rename_i p4 h4
      refine g_cat (upd_new upd_same h4) upd_same (by rw [List.length_append]; exact Nat.le_trans (Nat.add_le_add (Nat.add_le_add (lc _ _) (Nat.le_refl 1)) (lc _ _)) (by decide)) fun p5 h5 => ?_
      have o5 : ∀ z, Off [] H4 (upd (upd (upd (upd H4 p2 _) p3 _) p4 _) p5 z) := fun _ => (((Off.new h2).new2 h3).new2 h4).new2 h5
      exact fin _ p5 _ _ upd_same (((st4.cut.app one).app st4.cut).off (o5 _)) (by rw [List.length_append, List.length_append]; exact Nat.le_trans (Nat.add_le_add (Nat.add_le_add (lc _ _) (Nat.le_refl 1)) (lc _ _)) (by decide)) (d4.off (o5 _) nin_nil) (by omega) (o34.trans ((o5 _).mono (by simp)))
    walk_at "go"
    refine br_d (fun c4 => ?_) (fun c4 => ?_)
    · walk_at "go"
      rename_i p1 h1 p2 h2 r2 H4 r20 r21 d4 o4
      have np : ∀ {H : Hp} {p : Addr} {c : Int}, H p = none → DiceAt H a c → p ≠ a := fun {H p c} h dd z => by
        obtain ⟨_, _, _, e, _⟩ := dd
        rw [← z, h] at e
        cases e
      have np1 := np h1 d3
      have np2 := np h2 (d3.new (o := .tup [.str "tick"]) h1)
      have j2 := o4.at (by simpa using np2) upd_same
      have j1 := o4.at (by simpa using np1) (upd_new (o := .lst [.ref p1]) upd_same h2)
      have f4 := o4.at (by simpa using nd) (upd_new (o := .lst [.ref p1]) (upd_new (o := .tup [.str "tick"]) f3 h1) h2)
      have o34 : Off [a] H3 H4 := ((Off.new h1).new2 h2).trans o4
      have st4 := st3.off o34
      have one : AllSt K ss.length H4 [.ref p1] := AllSt.one (st := .tick) ⟨p1, rfl, .of j1⟩ trivial
      refine g_rep j2 (by omega) (by omega) (Nat.le_of_ble_eq_true rfl) fun p3 h3 => ?_
      have lr : (List.replicate (1 + r2).toNat [V.ref p1]).flatten.length ≤ 3 := by
        rw [PyProof.Rows.lm_len_rep_flat, List.length_singleton]
        omega
      refine g_cat (upd_new f4 h3) upd_same (Nat.le_trans (Nat.add_le_add hlen lr) (by decide)) fun p4 h4 => ?_
      have o5 : ∀ z, Off [] H4 (upd (upd H4 p3 _) p4 z) := fun _ => (Off.new h3).new2 h4
      exact fin _ p4 _ _ upd_same ((st4.app (one.rep _)).off (o5 _)) (by rw [List.length_append]; exact Nat.le_trans (Nat.add_le_add hlen lr) (by decide)) (d4.off (o5 _) nin_nil) (by omega) (o34.trans ((o5 _).mono (by simp)))
    · walk_at "go"
      rename_i p1 h1
      refine ⟨a, d, [a], bs, _, 0, _, rfl, d3.new h1, by omega, own.off (.new (S := []) h1) (by simp), by simp, gd, fun H4 v st vst vok d4 o4 => ?_⟩
      have np1 : p1 ≠ a := fun z => by
        obtain ⟨_, _, _, e, _⟩ := d3
        rw [← z, h1] at e
        cases e
      have j1 := o4.at (by simpa using np1) upd_same
      have f4 := o4.at (by simpa using nd) (upd_new f3 h1)
      have o34 : Off [a] H3 H4 := (Off.new h1).trans o4
      have st4 := st3.off o34
      have one : AllSt K ss.length H4 [v] := AllSt.one vst (hbl ▸ vok)
      walk_at "go"
      rename_i p2 h2
      refine g_cat (upd_new j1 h2) upd_same (Nat.le_trans (Nat.add_le_add (lc _ _) (Nat.le_refl 1)) (by decide)) fun p3 h3 => ?_
      have f5 := upd_new (o := .lst (cutV xs none (some at_) ++ [v])) (upd_new (o := .lst [v]) f4 h2) h3
      walk_at "go"
      rename_i p4 h4
      refine g_cat (upd_new upd_same h4) upd_same (by rw [List.length_append]; exact Nat.le_trans (Nat.add_le_add (Nat.add_le_add (lc _ _) (Nat.le_refl 1)) (lc _ _)) (by decide)) fun p5 h5 => ?_
      have o5 : ∀ z, Off [] H4 (upd (upd (upd (upd H4 p2 _) p3 _) p4 _) p5 z) := fun _ => (((Off.new h2).new2 h3).new2 h4).new2 h5
      exact fin _ p5 _ _ upd_same (((st4.cut.app one).app st4.cut).off (o5 _)) (by rw [List.length_append, List.length_append]; exact Nat.le_trans (Nat.add_le_add (Nat.add_le_add (lc _ _) (Nat.le_refl 1)) (lc _ _)) (by decide)) (d4.off (o5 _) nin_nil) (by omega) (o34.trans ((o5 _).mono (by simp)))
end
end SH
end

section
/-! #### the walk's words -/
local macro_rules | `(tactic| walk_at "ne0") => `(tactic| first
  | assumption
  | (refine Ne.symm ?_; assumption))
local macro_rules | `(tactic| walk_at "ne") => `(tactic| first
  | assumption
  | (refine Ne.symm ?_; assumption)
  | (refine' L2.ne_of_none ?gx (by assumption); (case gx => walk_at "hp"))
  | (refine' Ne.symm (L2.ne_of_none ?gx (by assumption)); (case gx => walk_at "hp")))
local macro_rules | `(tactic| walk_at "hp") => `(tactic| first
  | assumption
  | exact L2.upd_same
  | (refine' SH.upd_new ?gh (by assumption); (case gh => walk_at "hp"))
  | (refine' (L2.upd_ne ?gn).trans ?gh; (case gn => walk_at "ne0"); (case gh => walk_at "hp"))
  | (refine' SH.Off.at (by assumption) ?gn ?gh; (case gn => walk_at "nin"); (case gh => walk_at "hp")))
local macro_rules | `(tactic| walk_at "nin") => `(tactic| first
  | exact SH.nin_nil
  | (refine SH.nin_cons ?_ ?_; (· walk_at "ne0"); (· walk_at "nin")))
local macro_rules | `(tactic| walk_at "sq") => `(tactic| first
  | assumption
  | (apply L2.SqL.of; (· walk_at "hp"))
  | (apply L2.SqT.of; (· walk_at "hp"))
  | (refine' SH.seqT_new ?gx (by assumption); (case gx => walk_at "sq"))
  | (refine' SH.seqL_new ?gx (by assumption); (case gx => walk_at "sq"))
  | (refine' SH.Off.seqT (by assumption) ?gx; (case gx => walk_at "sq"))
  | (refine' SH.Off.seqL (by assumption) ?gy ?gx; (case gx => walk_at "sq"); (case gy => walk_at "nin")))
local macro_rules | `(tactic| walk_at "kd") => `(tactic| first
  | assumption | exact SH.KdV.int _ | exact SH.KdV.bl _ | exact SH.KdV.str _ | exact SH.KdV.non
  | (apply SH.KdV.tup; (· walk_at "sq")) | (apply SH.KdV.lst; (· walk_at "sq")))
/-- a way that cannot be -/
local macro_rules | `(tactic| walk_at "no") => `(tactic| (exfalso; first | assumption | omega | contradiction | (simp_all; done)))
/-- one step -/
local macro_rules | `(tactic| walk_at "g1") => `(tactic| with_reducible first
  | refine SH.g_var (by with_unfolding_all rfl) ?_ | refine SH.g_c ?_ | refine SH.g_op ?_ | refine SH.g_un ?_ | refine SH.g_I0 ?_ | refine SH.g_U ?_
  | refine SH.g_eqI ?_ | refine SH.g_neI ?_ | refine SH.g_eqS ?_ | refine SH.g_neS ?_
  | refine SH.g_test ?_ | refine SH.g_B ?_ | refine SH.g_isB ?_ | refine SH.g_and ?_ | refine SH.g_or ?_ | refine SH.g_not ?_ | refine SH.g_andV ?_ | refine SH.g_orV ?_ | refine SH.g_notV ?_ | refine SH.g_ifE ?_ | refine SH.g_chain ?_
  | refine SH.g_nil ?_ | refine SH.g_cons ?_ | refine SH.g_tup ?_ | refine SH.g_lst ?_ | refine SH.g_call ?_ | refine SH.g_fld ?_ | refine SH.g_meth ?_ | refine SH.g_make ?_ | refine SH.g_cb ?_ | refine SH.g_bm ?_
  | refine SH.g_seq ?_ | refine SH.g_asg ?_ | refine SH.g_name ?_ | refine SH.g_drop ?_ | refine SH.g_ret ?_ | refine SH.g_retN ?_ | refine SH.g_next ?_ | refine SH.g_brk ?_ | refine SH.g_cnt ?_ | refine SH.g_ifs ?_ | refine SH.g_par ?_ | refine SH.g_par2 ?_ | refine SH.g_fldS ?_ | refine SH.g_raise ?_ | refine SH.g_rs ?_
  | refine SH.g_sub ?_ | refine SH.g_yes ?_ | refine SH.g_sl ?_ | refine SH.g_noPart ?_ | refine SH.g_part ?_ | refine SH.g_intO ?_ | refine SH.g_dget ?_ | refine SH.g_dput ?_ | refine SH.g_forR ?_ | refine SH.g_forL ?_ | refine SH.g_forT ?_ | refine SH.g_lcR ?_ | refine SH.g_lcL ?_ | refine SH.g_lcT ?_ | refine SH.g_gcons ?_ | refine SH.g_gnil ?_
  | refine SH.br_t ?_ | refine SH.br_f ?_
  | refine SH.g_int ?_ | refine SH.g_abs ?_ | refine SH.g_max2 ?_ | refine SH.g_min2 ?_)
local macro_rules | `(tactic| walk_at "g2") => `(tactic| first
  | walk_at "g1"
  | ((with_reducible refine' SH.g_isiInt ?ga ?gz); (case ga => walk_at "kd"))
  | ((with_reducible refine' SH.g_isiBool ?ga ?gz); (case ga => walk_at "kd"))
  | ((with_reducible refine' SH.g_isiStr ?ga ?gz); (case ga => walk_at "kd"))
  | ((with_reducible refine' SH.g_isiTup ?ga ?gz); (case ga => walk_at "kd"))
  | ((with_reducible refine' SH.g_ixT ?ga ?gb ?gz); (case ga => walk_at "sq"); (case gb => rfl))
  | ((with_reducible refine' SH.g_ixL ?ga ?gb ?gz); (case ga => walk_at "sq"); (case gb => first | rfl | (apply SH.atI_refs; assumption)))
  | ((with_reducible refine SH.br_F ?_ ?_); (· decide +kernel)) | ((with_reducible refine SH.br_T ?_ ?_); (· decide +kernel)) | ((with_reducible refine SH.br_NF ?_ ?_); (· decide +kernel)) | ((with_reducible refine SH.br_NT ?_ ?_); (· decide +kernel))
  | ((with_reducible refine' SH.g_gtup ?ga ?gb ?gz); (case ga => walk_at "sq"); (case gb => rfl))
  | ((with_reducible refine' SH.g_lenT ?ga ?gz); (case ga => walk_at "sq"))
  | ((with_reducible refine' SH.g_lenL ?ga ?gz); (case ga => walk_at "sq"))
  | ((with_reducible refine SH.g_mkT (SH.sz rfl) ?_); intro _ _)
  | ((with_reducible refine SH.g_mkL (SH.sz rfl) ?_); intro _ _)
  | ((with_reducible refine SH.g_dnew ?_); intro _ _)
  | ((with_reducible refine' SH.g_tupL ?ga ?gz); (case ga => walk_at "sq"); intro _ _)
  | ((with_reducible refine' SH.g_lstL ?ga ?gz); (case ga => walk_at "sq"); intro _ _)
  | ((with_reducible refine' SH.g_lstT ?ga ?gz); (case ga => walk_at "sq"); intro _ _)
  | ((with_reducible refine' SH.g_dgR ?ga ?gb ?gz); (case ga => walk_at "hp"); (case gb => walk_at "dv"))
  | ((with_reducible refine' SH.g_fldR ?ga ?gb ?gc ?gd ?gz); (case ga => walk_at "hp"); (case gb => walk_at "cl"); (case gc => walk_at "na"); (case gd => walk_at "fv"))
  | ((with_reducible refine' SH.g_insR ?ga ?gb ?gz); (case ga => walk_at "hp"); (case gb => walk_at "fn"))
  | ((with_reducible refine' SH.g_setL ?ga ?gb ?gz); (case ga => walk_at "hp"); (case gb => rfl))
  | ((with_reducible refine SH.g_I ?_ ?_); (· walk_at "ci"))
  | ((with_reducible refine' SH.g_slL ?ga ?gz); (case ga => walk_at "sq"); intro _ _)
  | ((with_reducible refine' SH.g_cat ?ga ?gb ?gc ?gz); (case ga => walk_at "hp"); (case gb => walk_at "hp"); (case gc => walk_at "ls"); intro _ _))
/-- the side conditions of numbers: a divisor, a factor -/
local macro_rules | `(tactic| walk_at "ci") => `(tactic| first
  | (show _ ≠ _; omega) | (show _ < _; omega) | (constructor <;> omega) | (refine Or.inr ⟨?_, ?_⟩ <;> (show _ < _; omega)) | (refine Or.inl ⟨?_, ?_⟩ <;> (show _ < _; omega)) | (refine ⟨?_, ?_, ?_⟩ <;> decide))
local macro_rules | `(tactic| walk_at "ls") => `(tactic| first | (show _ ≤ _; exact Nat.le_trans (by assumption) (by decide)) | (show _ ≤ _; exact Nat.le_trans (by simp; omega) (by decide : 1000 ≤ sizeLine)))
local macro_rules | `(tactic| walk_at "dv") => `(tactic| rfl)
local macro_rules | `(tactic| walk_at "fv") => `(tactic| rfl)
local macro_rules | `(tactic| walk_at "fn") => `(tactic| rfl)
local macro_rules | `(tactic| walk_at "cl") => `(tactic| assumption)
local macro_rules | `(tactic| walk_at "na") => `(tactic| assumption)
local macro_rules | `(tactic| walk_at "go") => `(tactic| repeat walk_at "g2")
/-- a way is split -/
local macro_rules | `(tactic| walk_at "br") => `(tactic| with_reducible first
  | refine SH.br_d (fun _ => ?_) (fun _ => ?_) | refine SH.br_nd (fun _ => ?_) (fun _ => ?_) | refine SH.br_b (fun _ => ?_) (fun _ => ?_))
/-- all ways -/
local macro_rules | `(tactic| walk_at "all") => `(tactic| repeat' first | walk_at "g2" | (walk_at "br" <;> try (walk_at "no")))
/-- a truth value is the other -/
local macro_rules | `(tactic| walk_at "bq") => `(tactic| first | rfl | (simp_all; done) | (simp_all; omega) | (simp only [decide_eq_true_eq, decide_eq_false_iff_not, Bool.and_eq_true, Bool.or_eq_true] at *; omega))
/-- what was tracked is as it was -/
local macro_rules | `(tactic| walk_at "of") => `(tactic| first
  | assumption
  | exact SH.Off.refl _ _
  | (refine' SH.Off.new2 ?gx (by assumption); (case gx => walk_at "of"))
  | (refine' SH.Off.mut ?gx (by assumption); (case gx => walk_at "of"))
  | (refine' SH.Off.trans' ?gx (by assumption) ?gy; (case gy => (intro _ h; (first | exact h | (simp at h; done) | (simp at h ⊢; simp [h]; done)))); (case gx => walk_at "of")))
namespace SH
open PySem PySem.Spec PyProof.Rows L2 LamX
section
variable {X : Cx} {K : PySem.W.Frag} {x n : Str} {c : Value} {i : Nat} {body suite : List Stmt} {b₀ : Stmt} {np pos pos' : Pos} {tb : WX → TS} {ts : Addr → Value → Option Addr → TS} {Wout : WX}
/-- ps_tryAs where the exceptions may bear a context -/
theorem ps_tryAsC (hK : X.K = K) (hs : X.stack = X.env :: X.outer) (hf : X.env.frame = some X.env.locals) (hN : X.N.Nodup) (hi : X.N[i]? = some n) (hln : X.env.kindOf n = some .local) (hc : Names X x c) (tk : L2.Takes X Wout)
    (hb : ∀ (W : WX) (pn : List (Addr × Obj)) (xe : Value → Shared → Prop), L2.Takes (X.tr pn xe) W → PassesOwn (model X.prog X.w) X.A X.env xe → PSs (X.tr pn xe) body (tb W))
    (hsu : ∀ (a : Addr) (oe : Obj) (cls : Value) (d : Option Addr) (pn : List (Addr × Obj)), Zc cls d oe → (∃ vs, oe.data = .fields vs) → PSs (X.suite a ((a, oe) :: pn)) (b₀ :: suite) (ts a cls d)) :
    PS X (.Try body [.ExceptHandler (some (.Name x np)) (some n) (b₀ :: suite) pos'] [] [] pos) (tTryAs K c i tb ts Wout) := by
  subst hK
  exact L2.ps_try_as hs hf hN hi hln hc tk hb hsu
end
section
variable {P : Program} {w : World} {K : PySem.W.Frag} {mg : Str → Option Value} {base : Heap}
theorem gets_refused (T : Txt P w K mg) : ∃ g cdv, GetsL K mg "_law_refused" "call" ["call", "e"] (defScope s_law_refused) (defBody s_law_refused) g cdv := by
  obtain ⟨f, fd, F, hm⟩ := T.d_law_refused
  have hb := F.bindsN (ps := ["call"]) (fun _ _ _ _ _ _ us hl => match us, hl with | [_], _ => rfl)
  have hk := F.kp
  obtain ⟨oc, od, dV, kV, doc, pm, an, cdv, ct, osl, rfl, lk, hc, _, _⟩ := F.ex
  exact ⟨f, cdv, hm, hk, ⟨oc, od, _, dV, kV, doc, pm, an, ct, osl, lk, hb⟩, hc, sc_law_refused, rfl, .inl rfl⟩
theorem refused_gives {X : Cx} {g CS : Addr} {cdg : Value} {q : Str} (hme : X.mg "BadArgument" = some (.ref CS)) (xc : XcOk X.K CS "name") (xr : XrOk X.K CS CS true) :
    GivesTo X ["call", "e"] "_law_refused" (defScope s_law_refused) g cdg (defBody s_law_refused) "call" q (TTref CS "name") := by
  intro f c' s H Q tl act hc h
  refine ⟨_, pss_cons (ps_tryAsC (X := (cxOf C8.CX0 X.prog X.w X.K X.mg X.base ["call", "e"] "_law_refused" (defScope s_law_refused) g cdg X.A X.stack s H C8.E0).nox) (K := X.K) (i := 1) (c := .ref CS)
      (tb := fun W D σ H => ∃ Ech : XK, (∀ cls d σ' H', Ech cls d H' → W cls d σ' H') ∧ σ[0]? = some (some (.ref f)) ∧ H c' = some (CodeO c' q) ∧ tl Ech H fun _ H' => D.nx σ H')
      rfl rfl rfl sc_law_refused.nd rfl rfl ⟨rfl, by decide, .inl hme⟩ LamX.takes0 (fun W pn xe tk _ => ?_) (fun a oe cls d pn hz hf => pss_one (ps_ret (pe_xf (te := tVarL 2 1 (.ref a)) xc.xf xc.nf hz hf (by exact pe_varL (v := .ref a) (pv 1)))))) (pss_one (ps_ret pe_str)), ?_⟩
  · refine ⟨fun pins s' σ H' D I h' => ?_⟩
    obtain ⟨Ech, hW, h1, h2, h3⟩ := h'
    exact (pss_one (ps_expr (act W pn xe Ech _ _ tk hW))).run pins s' σ H' D I ⟨h1, h2, h3⟩
  · refine ⟨_, ?_, rfl, hc, h⟩
    rintro cls d σ' H' ⟨dd, v, rfl, rfl, hd, q'⟩
    refine ⟨true, xr.ex, fun _ a ha => ?_, fun z => Bool.noConfusion z⟩
    exact ⟨fun hl => List.getElem?_set_self (by rw [List.length_set] at hl; rw [hl]; decide), rfl, rfl, dd, _, v, rfl, hd, by kernel_rfl, q'⟩
end
end SH
end

section
/-! #### the walk's words -/
local macro_rules | `(tactic| walk_at "ne0") => `(tactic| first
  | assumption
  | (refine Ne.symm ?_; assumption))
local macro_rules | `(tactic| walk_at "ne") => `(tactic| first
  | assumption
  | (refine Ne.symm ?_; assumption)
  | (refine' L2.ne_of_none ?gx (by assumption); (case gx => walk_at "hp"))
  | (refine' Ne.symm (L2.ne_of_none ?gx (by assumption)); (case gx => walk_at "hp")))
local macro_rules | `(tactic| walk_at "hp") => `(tactic| first
  | assumption
  | exact L2.upd_same
  | (refine' SH.upd_new ?gh (by assumption); (case gh => walk_at "hp"))
  | (refine' (L2.upd_ne ?gn).trans ?gh; (case gn => walk_at "ne0"); (case gh => walk_at "hp"))
  | (refine' SH.Off.at (by assumption) ?gn ?gh; (case gn => walk_at "nin"); (case gh => walk_at "hp")))
local macro_rules | `(tactic| walk_at "nin") => `(tactic| first
  | exact SH.nin_nil
  | (refine SH.nin_cons ?_ ?_; (· walk_at "ne0"); (· walk_at "nin")))
local macro_rules | `(tactic| walk_at "sq") => `(tactic| first
  | assumption
  | (apply L2.SqL.of; (· walk_at "hp"))
  | (apply L2.SqT.of; (· walk_at "hp"))
  | (refine' SH.seqT_new ?gx (by assumption); (case gx => walk_at "sq"))
  | (refine' SH.seqL_new ?gx (by assumption); (case gx => walk_at "sq"))
  | (refine' SH.Off.seqT (by assumption) ?gx; (case gx => walk_at "sq"))
  | (refine' SH.Off.seqL (by assumption) ?gy ?gx; (case gx => walk_at "sq"); (case gy => walk_at "nin")))
local macro_rules | `(tactic| walk_at "kd") => `(tactic| first
  | assumption | exact SH.KdV.int _ | exact SH.KdV.bl _ | exact SH.KdV.str _ | exact SH.KdV.non
  | (apply SH.KdV.tup; (· walk_at "sq")) | (apply SH.KdV.lst; (· walk_at "sq")))
/-- a way that cannot be -/
local macro_rules | `(tactic| walk_at "no") => `(tactic| (exfalso; first | assumption | omega | contradiction | (simp_all; done)))
/-- one step -/
local macro_rules | `(tactic| walk_at "g1") => `(tactic| with_reducible first
  | refine SH.g_var (by with_unfolding_all rfl) ?_ | refine SH.g_c ?_ | refine SH.g_op ?_ | refine SH.g_un ?_ | refine SH.g_I0 ?_ | refine SH.g_U ?_
  | refine SH.g_eqI ?_ | refine SH.g_neI ?_ | refine SH.g_eqS ?_ | refine SH.g_neS ?_
  | refine SH.g_test ?_ | refine SH.g_B ?_ | refine SH.g_isB ?_ | refine SH.g_and ?_ | refine SH.g_or ?_ | refine SH.g_not ?_ | refine SH.g_andV ?_ | refine SH.g_orV ?_ | refine SH.g_notV ?_ | refine SH.g_ifE ?_ | refine SH.g_chain ?_
  | refine SH.g_nil ?_ | refine SH.g_cons ?_ | refine SH.g_tup ?_ | refine SH.g_lst ?_ | refine SH.g_call ?_ | refine SH.g_fld ?_ | refine SH.g_meth ?_ | refine SH.g_make ?_ | refine SH.g_cb ?_ | refine SH.g_bm ?_
  | refine SH.g_seq ?_ | refine SH.g_asg ?_ | refine SH.g_name ?_ | refine SH.g_drop ?_ | refine SH.g_ret ?_ | refine SH.g_retN ?_ | refine SH.g_next ?_ | refine SH.g_brk ?_ | refine SH.g_cnt ?_ | refine SH.g_ifs ?_ | refine SH.g_par ?_ | refine SH.g_par2 ?_ | refine SH.g_fldS ?_ | refine SH.g_raise ?_ | refine SH.g_rs ?_
  | refine SH.g_sub ?_ | refine SH.g_yes ?_ | refine SH.g_sl ?_ | refine SH.g_noPart ?_ | refine SH.g_part ?_ | refine SH.g_intO ?_ | refine SH.g_dget ?_ | refine SH.g_dput ?_ | refine SH.g_forR ?_ | refine SH.g_forL ?_ | refine SH.g_forT ?_ | refine SH.g_lcR ?_ | refine SH.g_lcL ?_ | refine SH.g_lcT ?_ | refine SH.g_gcons ?_ | refine SH.g_gnil ?_
  | refine SH.br_t ?_ | refine SH.br_f ?_
  | refine SH.g_int ?_ | refine SH.g_abs ?_ | refine SH.g_max2 ?_ | refine SH.g_min2 ?_)
local macro_rules | `(tactic| walk_at "g2") => `(tactic| first
  | walk_at "g1"
  | ((with_reducible refine' SH.g_isiInt ?ga ?gz); (case ga => walk_at "kd"))
  | ((with_reducible refine' SH.g_isiBool ?ga ?gz); (case ga => walk_at "kd"))
  | ((with_reducible refine' SH.g_isiStr ?ga ?gz); (case ga => walk_at "kd"))
  | ((with_reducible refine' SH.g_isiTup ?ga ?gz); (case ga => walk_at "kd"))
  | ((with_reducible refine' SH.g_ixT ?ga ?gb ?gz); (case ga => walk_at "sq"); (case gb => rfl))
  | ((with_reducible refine' SH.g_ixL ?ga ?gb ?gz); (case ga => walk_at "sq"); (case gb => first | rfl | (apply SH.atI_refs; assumption)))
  | ((with_reducible refine SH.br_F ?_ ?_); (· decide +kernel)) | ((with_reducible refine SH.br_T ?_ ?_); (· decide +kernel)) | ((with_reducible refine SH.br_NF ?_ ?_); (· decide +kernel)) | ((with_reducible refine SH.br_NT ?_ ?_); (· decide +kernel))
  | ((with_reducible refine' SH.g_gtup ?ga ?gb ?gz); (case ga => walk_at "sq"); (case gb => rfl))
  | ((with_reducible refine' SH.g_lenT ?ga ?gz); (case ga => walk_at "sq"))
  | ((with_reducible refine' SH.g_lenL ?ga ?gz); (case ga => walk_at "sq"))
  | ((with_reducible refine SH.g_mkT (SH.sz rfl) ?_); intro _ _)
  | ((with_reducible refine SH.g_mkL (SH.sz rfl) ?_); intro _ _)
  | ((with_reducible refine SH.g_dnew ?_); intro _ _)
  | ((with_reducible refine' SH.g_tupL ?ga ?gz); (case ga => walk_at "sq"); intro _ _)
  | ((with_reducible refine' SH.g_lstL ?ga ?gz); (case ga => walk_at "sq"); intro _ _)
  | ((with_reducible refine' SH.g_lstT ?ga ?gz); (case ga => walk_at "sq"); intro _ _)
  | ((with_reducible refine' SH.g_dgR ?ga ?gb ?gz); (case ga => walk_at "hp"); (case gb => walk_at "dv"))
  | ((with_reducible refine' SH.g_fldR ?ga ?gb ?gc ?gd ?gz); (case ga => walk_at "hp"); (case gb => walk_at "cl"); (case gc => walk_at "na"); (case gd => walk_at "fv"))
  | ((with_reducible refine' SH.g_insR ?ga ?gb ?gz); (case ga => walk_at "hp"); (case gb => walk_at "fn"))
  | ((with_reducible refine' SH.g_setL ?ga ?gb ?gz); (case ga => walk_at "hp"); (case gb => rfl))
  | ((with_reducible refine SH.g_I ?_ ?_); (· walk_at "ci"))
  | ((with_reducible refine' SH.g_slL ?ga ?gz); (case ga => walk_at "sq"); intro _ _)
  | ((with_reducible refine' SH.g_cat ?ga ?gb ?gc ?gz); (case ga => walk_at "hp"); (case gb => walk_at "hp"); (case gc => walk_at "ls"); intro _ _))
/-- the side conditions of numbers: a divisor, a factor -/
local macro_rules | `(tactic| walk_at "ci") => `(tactic| first
  | (show _ ≠ _; omega) | (show _ < _; omega) | (constructor <;> omega) | (refine Or.inr ⟨?_, ?_⟩ <;> (show _ < _; omega)) | (refine Or.inl ⟨?_, ?_⟩ <;> (show _ < _; omega)) | (refine ⟨?_, ?_, ?_⟩ <;> decide))
local macro_rules | `(tactic| walk_at "ls") => `(tactic| first | (show _ ≤ _; exact Nat.le_trans (by assumption) (by decide)) | (show _ ≤ _; exact Nat.le_trans (by simp; omega) (by decide : 1000 ≤ sizeLine)))
local macro_rules | `(tactic| walk_at "dv") => `(tactic| rfl)
local macro_rules | `(tactic| walk_at "fv") => `(tactic| rfl)
local macro_rules | `(tactic| walk_at "fn") => `(tactic| rfl)
local macro_rules | `(tactic| walk_at "cl") => `(tactic| assumption)
local macro_rules | `(tactic| walk_at "na") => `(tactic| assumption)
local macro_rules | `(tactic| walk_at "go") => `(tactic| repeat walk_at "g2")
/-- a way is split -/
local macro_rules | `(tactic| walk_at "br") => `(tactic| with_reducible first
  | refine SH.br_d (fun _ => ?_) (fun _ => ?_) | refine SH.br_nd (fun _ => ?_) (fun _ => ?_) | refine SH.br_b (fun _ => ?_) (fun _ => ?_))
/-- all ways -/
local macro_rules | `(tactic| walk_at "all") => `(tactic| repeat' first | walk_at "g2" | (walk_at "br" <;> try (walk_at "no")))
/-- a truth value is the other -/
local macro_rules | `(tactic| walk_at "bq") => `(tactic| first | rfl | (simp_all; done) | (simp_all; omega) | (simp only [decide_eq_true_eq, decide_eq_false_iff_not, Bool.and_eq_true, Bool.or_eq_true] at *; omega))
/-- what was tracked is as it was -/
local macro_rules | `(tactic| walk_at "of") => `(tactic| first
  | assumption
  | exact SH.Off.refl _ _
  | (refine' SH.Off.new2 ?gx (by assumption); (case gx => walk_at "of"))
  | (refine' SH.Off.mut ?gx (by assumption); (case gx => walk_at "of"))
  | (refine' SH.Off.trans' ?gx (by assumption) ?gy; (case gy => (intro _ h; (first | exact h | (simp at h; done) | (simp at h ⊢; simp [h]; done)))); (case gx => walk_at "of")))
/-- the own season's dicts -/
local macro_rules | `(tactic| walk_at "dv") => `(tactic| with_reducible first
  | exact SH.bk_right | exact SH.bk_heard | exact SH.bk_landed | exact SH.bk_told | exact SH.bk_untold | exact SH.bk_unheard | exact SH.bk_present
  | exact SH.ok_own | exact SH.ok_now | exact SH.ok_boats | exact SH.ok_broken | exact SH.ok_beyond)
local macro_rules | `(tactic| walk_at "dw") => `(tactic| with_reducible first
  | exact SH.bp_right | exact SH.bp_heard | exact SH.bp_landed | exact SH.bp_told | exact SH.bp_untold | exact SH.bp_unheard | exact SH.bp_present
  | exact SH.op_now | exact SH.op_broken | exact SH.op_beyond)
local macro_rules | `(tactic| walk_at "g2") => `(tactic|
  ((with_reducible refine' SH.g_dpA ?ga ?gb ?gc ?gz); (case ga => walk_at "hp"); (case gb => walk_at "dw"); (case gc => exact SH.szk rfl); intro _ _ _))
local macro_rules | `(tactic| walk_at "sq") => `(tactic|
  ((refine' SH.seqT_put ?gx ?gy ?gz); (case gy => walk_at "hp"); (case gz => exact trivial); (case gx => walk_at "sq")))
local macro_rules | `(tactic| walk_at "g2") => `(tactic|
  ((with_reducible refine' SH.g_ixL ?ga ?gb ?gz); (case ga => walk_at "sq"); (case gb => first | rfl | (apply SH.atI_refs; assumption) | exact SH.atI_cons0)))
/-- the law's dice -/
local macro_rules | `(tactic| walk_at "dc") => `(tactic| first
  | assumption
  | (refine' SH.DiceAt.new ?gx (by assumption); (case gx => walk_at "dc"))
  | (refine' SH.DiceAt.off ?gx (by assumption) ?gy; (case gx => walk_at "dc"); (case gy => walk_at "nin")))
local macro_rules | `(tactic| walk_at "g2") => `(tactic| first
  | ((with_reducible refine' SH.g_roll ?ga ?gb ?gc ?gd ?gz); (case ga => walk_at "dc"); (case gb => omega); (case gc => omega); (case gd => omega); intro _ _ _ _ _ _))
namespace SH
open PySem PySem.Spec PyProof.Rows L2 LamX
/-! ### courses judged: the law -/
theorem steps_dpAll {K : PySem.W.Frag} {H : Hp} : ∀ {xs : List V} {sts : List Stp}, StepsAt K H xs sts → DpAll K H xs (sts.map fun st => .tuple (st.vs.map dat2))
  | _, _, .nil => .nil
  | _, _, .cons r t => by
    obtain ⟨p, e, h⟩ := r
    subst e
    exact .cons (.tup h (fl_dpAll (vs_fl _))) (steps_dpAll t)
theorem steps_lay : ∀ sts : List Stp, PyData.canLayAll0 (sts.map fun st => PyData.tuple (st.vs.map dat2)) = true
  | [] => rfl
  | st :: sts => by
    show (PyData.canLayAll0 (st.vs.map dat2) && PyData.canLayAll0 (sts.map fun st => PyData.tuple (st.vs.map dat2))) = true
    rw [steps_lay sts, fl_lay (vs_fl st)]
    rfl
theorem steps_depth : ∀ sts : List Stp, PyData.depthAll (sts.map fun st => PyData.tuple (st.vs.map dat2)) ≤ 1
  | [] => Nat.zero_le _
  | st :: sts => by
    show max (PyData.depthAll (st.vs.map dat2) + 1) (PyData.depthAll (sts.map fun st => PyData.tuple (st.vs.map dat2))) ≤ 1
    have h1 := fl_depth (vs_fl st)
    have h2 := steps_depth sts
    omega
theorem steps_shaped (sts : List Stp) : SeqAt.shaped (.tuple (sts.map fun st => PyData.tuple (st.vs.map dat2))) = true := by
  unfold SeqAt.shaped
  rw [Bool.and_eq_true, decide_eq_true_eq]
  refine ⟨steps_lay sts, ?_⟩
  show PyData.depthAll _ + 1 ≤ 64
  have := steps_depth sts
  omega
/-- a course is no step -/
theorem odd_steps {K : PySem.W.Frag} {H : Hp} {t : Addr} {n : Int} : ∀ {xs : List V} {sts : List Stp}, SqT K H t xs → StepsAt K H xs sts → OddStep K H (.ref t) n
  | _, _, ht, .nil => .inr (.inl ⟨t, [], rfl, ht, rfl, Nat.zero_le _, rfl⟩)
  | x :: xs, st :: sts, ht, .cons r q => by
    have w : StepsAt K H (x :: xs) (st :: sts) := .cons r q
    obtain ⟨a, e, h⟩ := r
    subst e
    exact .inr (.inr ⟨t, a, _, _, _, _, rfl, ht, h, fun S H' o => .tup (o.seqT ht) (steps_dpAll (w.off o)), steps_shaped (st :: sts)⟩)
theorem items_of {K : PySem.W.Frag} {B : List Addr} {n : Nat} {H : Hp} : ∀ {xs : List V} {sts : List Stp}, StepsAt K H xs sts → (∀ st ∈ sts, st.ok n) → Paired (ItemB K B n H) xs (sts.map some)
  | _, _, .nil, _ => .nil
  | _, _, .cons r t, h => .cons ⟨⟨r, h _ List.mem_cons_self⟩, fun z => by cases z⟩ (items_of t fun st z => h st (List.mem_cons_of_mem _ z))
theorem plays_odd : ∀ (l : List (Option Stp)) (s : Sea), s.plays (l ++ [none]) = none
  | [], s => rfl
  | none :: l, s => rfl
  | some st :: l, s => by
    show (if s.can st = true then (s.do' st).plays (l ++ [none]) else none) = none
    split
    · exact plays_odd l _
    · rfl
/-- a value that is no course of s: B are the places that may change -/
def NoCrs (K : PySem.W.Frag) (B : List Addr) (n : Nat) (s : Sea) (H : Hp) (v : V) : Prop :=
  (∃ kd, KdV K H v kd ∧ kd ≠ .tup ∧ ∀ q ∈ B, v ≠ .ref q) ∨ (∃ t xs, v = .ref t ∧ SqT K H t xs ∧ ¬ (xs.length : Int) ≤ 5000) ∨ ∃ t xs its, v = .ref t ∧ Crse K H B n t xs its ∧ xs.length ≤ 5000 ∧ s.plays its = none
theorem NoCrs.off {K : PySem.W.Frag} {B S : List Addr} {n : Nat} {s : Sea} {H H' : Hp} {v : V} (h : NoCrs K B n s H v) (o : Off S H H') (hS : ∀ a ∈ S, a ∈ B) : NoCrs K B n s H' v := by
  rcases h with ⟨kd, hk, nk, hb⟩ | ⟨t, xs, e, ht, hl⟩ | ⟨t, xs, its, e, hc, hl, hp⟩
  · exact .inl ⟨kd, hk.off o fun a u ev _ ha => hb a (hS a ha) ev, nk, hb⟩
  · exact .inr (.inl ⟨t, xs, e, o.seqT ht, hl⟩)
  · exact .inr (.inr ⟨t, xs, its, e, hc.off o hS, hl, hp⟩)
def AllNo (K : PySem.W.Frag) (B : List Addr) (n : Nat) (s : Sea) (H : Hp) (vs : List V) : Prop := ∀ v ∈ vs, NoCrs K B n s H v
theorem AllNo.off {K : PySem.W.Frag} {B : List Addr} {n : Nat} {s : Sea} {H H' : Hp} {vs : List V} (h : AllNo K B n s H vs) (o : Off [] H H') : AllNo K B n s H' vs := fun v hv => (h v hv).off o fun _ z => by cases z
theorem AllNo.cons {K : PySem.W.Frag} {B : List Addr} {n : Nat} {s : Sea} {H : Hp} {v : V} {vs : List V} (h : NoCrs K B n s H v) (t : AllNo K B n s H vs) : AllNo K B n s H (v :: vs) := fun x hx => by
  rcases List.mem_cons.mp hx with rfl | hx
  · exact h
  · exact t x hx
theorem AllNo.nil {K : PySem.W.Frag} {B : List Addr} {n : Nat} {s : Sea} {H : Hp} : AllNo K B n s H [] := fun v hv => by cases hv
theorem KdV.offTab {K : PySem.W.Frag} {H H' : Hp} {P : Addr} {ps : Array Value} {v : V} {kd : Kd} (hk : KdV K H v kd) (hP : H P = some (.tbl ps)) (o : Off [P] H H') : KdV K H' v kd := by
  cases hk with
  | non => exact .non
  | bl b => exact .bl b
  | int i => exact .int i
  | str z => exact .str z
  | @lst a xs h =>
    refine .lst (xs := xs) ?_
    rcases h with (h | ⟨o', h⟩) | h
    · exact .inl (.inl (o.at (by simpa using fun z : a = P => by rw [z, hP] at h; cases h) h))
    · exact .inl (.inr ⟨o', o.frzs _ _ _ h⟩)
    · exact .inr h
  | @tup a xs h => exact .tup (o.seqT h)
  | @dct a kvs h => exact .dct (o.at (by simpa using fun z : a = P => by rw [z, hP] at h; cases h) h)
theorem KdV.offDice {K : PySem.W.Frag} {H H' : Hp} {d : Addr} {c c' : Int} {v : V} {kd : Kd} (hk : KdV K H v kd) (h1 : DiceAt H d c) (h2 : DiceAt H' d c') (o : Off [d] H H') : KdV K H' v kd := by
  obtain ⟨_, _, _, e1, _⟩ := h1
  obtain ⟨_, _, _, e2, _⟩ := h2
  cases hk with
  | non => exact .non
  | bl b => exact .bl b
  | int i => exact .int i
  | str z => exact .str z
  | @lst a xs h =>
    rcases h with (h | ⟨o', h⟩) | h
    · by_cases z : a = d
      · rw [z]
        exact .lst (.of e2)
      · exact .lst (.inl (.inl (o.at (by simpa using z) h)))
    · exact .lst (.inl (.inr ⟨o', o.frzs _ _ _ h⟩))
    · exact .lst (.inr h)
  | @tup a xs h => exact .tup (o.seqT h)
  | @dct a kvs h => exact .dct (o.at (by simpa using fun z : a = d => by rw [z, e1] at h; cases h) h)
theorem DiceAt.noext {H : Hp} {a : Addr} {c : Int} (h : DiceAt H a c) : NoExt H [a] := fun b hb φ e => by
  obtain ⟨_, _, _, e2, _⟩ := h
  rw [List.mem_singleton.mp hb, e2] at e
  cases e
theorem PlanH.noext {K : PySem.W.Frag} {H : Hp} {p sh : Addr} {ss : List Int} {most late reserve : Int} (h : PlanH K H p sh ss most late reserve) : NoExt H [p] := fun b hb φ e => by
  obtain ⟨_, e2⟩ := h.at_
  rw [List.mem_singleton.mp hb, e2] at e
  cases e
def qR : Str := "_law_right.<locals>.<lambda>"
/-- what stands through the law's def -/
structure RtI (K : PySem.W.Frag) (H0 H : Hp) (a l p t P0 : Addr) (ss : List Int) (most late reserve : Int) (xs : List V) (sts : List Stp) (c : Int) : Prop where
  dice : DiceAt H a c
  own : ∃ sh, OwnL H l sh ss most late reserve
  plan : ∃ sh, PlanH K H p sh ss most late reserve
  at_ : SqT K H t xs
  sts_ : StepsAt K H xs sts
  ok : ∀ st ∈ sts, st.ok ss.length
  len : xs.length ≤ 100
  tab : TabS H P0 qR
  off : Off [a, P0] H0 H
  nla : l ≠ a
  nlp : l ≠ p
  npa : p ≠ a
  nlP : l ≠ P0
  npP : p ≠ P0
  naP : a ≠ P0
  nta : t ≠ a
  ntp : t ≠ p
  ntP : t ≠ P0
  new : H0 p = none
section
variable {K : PySem.W.Frag} {H0 H H' : Hp} {a l p t P0 : Addr} {ss : List Int} {most late reserve : Int} {xs : List V} {sts : List Stp} {c c' : Int}
theorem RtI.nil (r : RtI K H0 H a l p t P0 ss most late reserve xs sts c) (o : Off [] H H') : RtI K H0 H' a l p t P0 ss most late reserve xs sts c := by
  obtain ⟨sh, ho⟩ := r.own
  obtain ⟨sh2, hp⟩ := r.plan
  exact { r with dice := r.dice.off o nin_nil, own := ⟨sh, ho.off o (by simp)⟩, plan := ⟨sh2, hp.off o (by simp)⟩, at_ := o.seqT r.at_, sts_ := r.sts_.off o, tab := SH.TabS.off r.tab o nin_nil NoExt.nil, off := r.off.trans (o.mono (by simp)) }
theorem RtI.dc (r : RtI K H0 H a l p t P0 ss most late reserve xs sts c) (o : Off [a] H H') (d : DiceAt H' a c') : RtI K H0 H' a l p t P0 ss most late reserve xs sts c' := by
  obtain ⟨sh, ho⟩ := r.own
  obtain ⟨sh2, hp⟩ := r.plan
  exact { r with dice := d, own := ⟨sh, ho.off o (by simpa using r.nla)⟩, plan := ⟨sh2, hp.off o (by simpa using r.npa)⟩, at_ := o.seqT r.at_, sts_ := r.sts_.off o, tab := SH.TabS.off r.tab o (by simpa using r.naP.symm) r.dice.noext, off := r.off.trans (o.mono (by simp)) }
theorem RtI.pl {sh' : Addr} (r : RtI K H0 H a l p t P0 ss most late reserve xs sts c) (o : Off [p] H H') (d : PlanH K H' p sh' ss most late reserve) : RtI K H0 H' a l p t P0 ss most late reserve xs sts c := by
  obtain ⟨sh, ho⟩ := r.own
  obtain ⟨sh2, hp⟩ := r.plan
  exact { r with dice := r.dice.off o (by simpa using r.npa.symm), own := ⟨sh, ho.off o (by simpa using r.nlp)⟩, plan := ⟨sh', d⟩, at_ := o.seqT r.at_, sts_ := r.sts_.off o, tab := SH.TabS.off r.tab o (by simpa using r.npP.symm) hp.noext, off := r.off.muts o fun u hu => by rw [List.mem_singleton.mp hu]; exact .inr r.new }
theorem RtI.tb (r : RtI K H0 H a l p t P0 ss most late reserve xs sts c) (o : Off [P0] H H') (d : TabS H' P0 qR) : RtI K H0 H' a l p t P0 ss most late reserve xs sts c := by
  obtain ⟨sh, ho⟩ := r.own
  obtain ⟨sh2, hp⟩ := r.plan
  exact { r with dice := r.dice.off o (by simpa using r.naP), own := ⟨sh, ho.off o (by simpa using r.nlP)⟩, plan := ⟨sh2, hp.off o (by simpa using r.npP)⟩, at_ := o.seqT r.at_, sts_ := r.sts_.off o, tab := d, off := r.off.trans (o.mono (by simp)) }
theorem RtI.mono (r : RtI K H0 H a l p t P0 ss most late reserve xs sts c) (h : c ≤ c') : RtI K H0 H a l p t P0 ss most late reserve xs sts c' := { r with dice := r.dice.mono h }
end
theorem crs_fit {ss : List Int} {most late reserve : Int} (ok : PlanOk ss most late reserve) (h : ¬ needI ss most late ≤ reserve) :
    (∀ st ∈ crs ss most late reserve, st.ok ss.length) ∧ (crs ss most late reserve).length ≤ 100 := by
  have n0 := ok.n0
  have m0 := ok.m0
  have m1 := ok.m1
  have l0 := ok.l0
  have l1 := ok.l1
  have r0 := ok.r0
  have s0 : ∀ y ∈ ss, 0 ≤ y := fun y hy => (ok.s0 y hy).1
  obtain ⟨ib, ix⟩ := idx_mx n0 s0
  have hS := ok.s0 _ (mx_mem n0 s0)
  unfold needI at h
  have n1 : ¬ ss.length = 1 := fun z => by rw [if_pos z] at h; omega
  rw [if_neg n1] at h
  obtain ⟨L, rfl⟩ : ∃ L : Nat, late = L := ⟨late.toNat, by omega⟩
  unfold crs
  rw [Int.toNat_natCast]
  have e1 : 0 ≤ (2 * (L : Int) + 1) * most := Int.mul_nonneg (by omega) (by omega)
  generalize hb : ss.idxOf (mx ss) = b at *
  generalize mx ss = S at *
  generalize hto : min S ((2 * (L : Int) + 1) * most) = tot at *
  have ht4 : reserve < tot := by omega
  have ht2 : tot ≤ S := by omega
  have ho : (if b = 0 then 1 else 0) ≠ b := by split <;> omega
  have ho2 : (if b = 0 then 1 else 0) < ss.length := by split <;> omega
  generalize (if b = 0 then 1 else 0) = o at *
  have len := steps_len (tot := tot) (most := most) (S := S) (late := (L : Int)) (reserve := reserve) (b := b) (o := o) (2 * L + 1)
  exact ⟨steps_ok m1 ib ho2 ho (by omega) (by omega) _, by omega⟩
theorem RtI.fresh {K : PySem.W.Frag} {H0 H : Hp} {a l p t P0 : Addr} {ss : List Int} {most late reserve : Int} {xs : List V} {sts : List Stp} {c : Int} (r : RtI K H0 H a l p t P0 ss most late reserve xs sts c) {x : Addr} (h : H x = none) : ∀ q ∈ [a, p, P0], V.ref x ≠ .ref q := by
  intro q hq e
  cases e
  simp only [List.mem_cons, List.not_mem_nil, or_false] at hq
  rcases hq with rfl | rfl | rfl
  · obtain ⟨_, _, _, e, _⟩ := r.dice
    rw [h] at e; cases e
  · obtain ⟨_, e⟩ := r.plan
    obtain ⟨_, e⟩ := e.at_
    rw [h] at e; cases e
  · obtain ⟨_, e, _⟩ := r.tab
    rw [h] at e; cases e
theorem RtI.crse {K : PySem.W.Frag} {H0 H : Hp} {a l p t P0 x : Addr} {ss : List Int} {most late reserve : Int} {xs : List V} {sts : List Stp} {c : Int} {y : V} (r : RtI K H0 H a l p t P0 ss most late reserve xs sts c) (h : SqT K H x (xs ++ [y])) (hy : OddStep K H y ss.length) (ne : ∀ q ∈ [a, p, P0], y ≠ .ref q) : NoCrs K [a, p, P0] ss.length (Sea.new ss most late reserve) H (.ref x) :=
  .inr (.inr ⟨x, _, _, rfl, ⟨h, (items_of r.sts_ r.ok).snoc (b := none) ⟨hy, fun _ => ne⟩⟩, by rw [List.length_append, List.length_singleton]; have := r.len; omega, plays_odd _ _⟩)
theorem ag_no {K : PySem.W.Frag} {H0 H : Hp} {Q : VK} {E : XK} {a l p t P0 : Addr} {ss : List Int} {most late reserve : Int} {xs : List V} {sts : List Stp} {c : Int} {v : V} (r : RtI K H0 H a l p t P0 ss most late reserve xs sts c) (h : NoCrs K [a, p, P0] ss.length (Sea.new ss most late reserve) H v)
    (q : ∀ H', RtI K H0 H' a l p t P0 ss most late reserve xs sts c → Q (.bl false) H') : spAgX K [.ref p, v] H Q E := by
  obtain ⟨sh, hp⟩ := r.plan
  refine .inr ⟨p, sh, ss, most, late, reserve, v, rfl, hp, ?_⟩
  rcases h with ⟨kd, hk, nk, hb⟩ | ⟨t2, xs2, e, ht, hl⟩ | ⟨t2, xs2, its, e, hc, hl, hn⟩
  · exact .inl ⟨kd, hk, nk, q H r⟩
  · exact .inr (.inl ⟨t2, xs2, e, ht, hl, q H r⟩)
  · refine .inr (.inr ⟨t2, xs2, its, _, e, hc, by simp, hl, fun H' sh' hp' o => ?_⟩)
    have e2 : verd (Sea.new ss most late reserve) its = false := by
      unfold verd
      rw [hn]
    rw [e2]
    exact q H' (r.pl o hp')
theorem tell9 {n : Int} (h : n ≤ 5) : stepB [.str "tell", .int 9] n = false := by
  have e : inB 0 (n - 1) (.int 9) = false := by
    show (decide ((0 : Int) ≤ 9) && decide ((9 : Int) ≤ n - 1)) = false
    rw [decide_eq_false (show ¬ (9 : Int) ≤ n - 1 by omega), Bool.and_false]
  show (inB 0 (n - 1) (.int 9) && _) = false
  rw [e, Bool.false_and]
def refE (C : Addr) (f : Str) (Q : VK) : XK := fun cls d H' => ∃ dd v, cls = .ref C ∧ d = some dd ∧ H' dd = some (.xd [(f, v)]) ∧ Q v H'
section
variable {K : PySem.W.Frag} {σ : L2.St} {H : Hp} {Q : VK} {P0 C : Addr} {f : Str}
theorem g_lam1 {t : XK → TE} (h1 : TabS H P0 qR) (q : ∀ H1, Off [P0] H H1 → TabS H1 P0 qR → t (refE C f Q) σ H1 fun _ H' => Q (.str "") H') : tLam1 P0 qR (TTref C f) t σ H Q := ⟨h1, fun H1 o1 t1 => q H1 o1 t1⟩
theorem g_refE {v : V} (q : ∀ d H', H d = none → Off [] H H' → Q v H') : RaiseW C f v H (refE C f Q) := fun d hd => ⟨d, v, rfl, rfl, upd_same, q d _ hd (.new hd)⟩
theorem g_eqB {x : Bool} (q : Q (.bl true) H) : rEq (.bl x) (.bl x) H Q := ⟨rfl, by rw [decide_eq_true rfl]; exact q⟩
theorem g_neB {a : Bool} (q : Q (.bl false) H) : rNe (.bl a) (.bl a) H Q := ⟨rfl, by rw [decide_eq_true rfl]; exact q⟩
end
def spRightX (P0 : Addr) : Sp := fun vs H Q _ => ∃ (a : Addr) (c : Int), vs = [.ref a] ∧ DiceAt H a c ∧ c ≤ 1000000 ∧ TabS H P0 qR ∧ a ≠ P0 ∧ ∀ H', Off [a, P0] H H' → TabS H' P0 qR → Q (.bl true) H'
local macro_rules | `(tactic| walk_at "g2") => `(tactic| with_reducible first | refine SH.g_kw ?_ | refine SH.g_kwR rfl ?_)
section
variable {P : Program} {w : World} {K : PySem.W.Frag} {mg : Str → Option Value} {base : Heap}
theorem ok_law_right (T : Txt P w K mg) {cR P0 : Addr} (hco : CodeOf K mg "_law_right" cR) (TB : TabB base mg cR P0) : DefOk P w K mg base "_law_right" 12 ["dice"] (spRightX P0) := by
  refine T.d_law_right.okT sc_law_right hco (fun _ _ _ _ _ _ us hl => match us, hl with | [_], _ => rfl) (fun vs H Q E h => ?_) (fun f A outer s H vs Q E hr h => ?_)
  · obtain ⟨a, c, rfl, _⟩ := h
    rfl
  · obtain ⟨a, c, rfl, hd, hc, htab, naP, q⟩ := h
    have B := T.blt
    have hu := hu_of hr
    have G_law_n_plan := ok_law_n_plan (base := base) T
    have G_law_n_made := ok_law_n_made (base := base) T
    have G_course_against := ok_course_against (base := base) T
    have G_law_n_breach := ok_law_n_breach (base := base) T
    have G_law_pick := ok_law_pick (base := base) T
    obtain ⟨gR, cdR, GR⟩ := gets_refused T
    have G_law_bent := ok_law_bent (base := base) T
    have G_law_odd_values := ok_law_odd_values (base := base) T
    have G_is_against := ok_is_against (base := base) T
    have L_is_against := okL_is_against (base := base) T
    have G_is_safe := ok_is_safe (base := base) T
    have G_least_reserve := ok_least_reserve (base := base) T
    refine ⟨_, (pss_cons (ps_set (i := 1) sc_law_right.nd rfl (by first | exact Or.inl rfl | exact Or.inr rfl) (pe_df G_law_n_plan (hr.mono (by decide)) (L2N.passes_call (L2N.takes_of rfl rfl rfl rfl) fun _ _ _ _ z => z) (pa_cons (pv 0) pa_nil)))
  (pss_cons (ps_set (i := 2) sc_law_right.nd rfl (by first | exact Or.inl rfl | exact Or.inr rfl) (pe_df G_law_n_made (hr.mono (by decide)) (L2N.passes_call (L2N.takes_of rfl rfl rfl rfl) fun _ _ _ _ z => z) (pa_cons (pv 1) pa_nil)))
  (pss_cut (ps_set (i := 3) sc_law_right.nd rfl (by first | exact Or.inl rfl | exact Or.inr rfl) (pe_df G_course_against (hr.mono (by decide)) (L2N.passes_call (L2N.takes_of rfl rfl rfl rfl) fun _ _ _ _ z => z) (pa_cons (pv 2) pa_nil)))
  (pss_cut (ps_set (i := 3) sc_law_right.nd rfl (by first | exact Or.inl rfl | exact Or.inr rfl) (pe_ifExp (pt_cmpR op_notN (pv 3) pe_non (nomark _)) (pv 3) (pe_tup (pa_cons (pe_tup (pa_cons pe_str (pa_cons pe_int (pa_cons pe_int pa_nil)))) (pa_cons (pe_tup (pa_cons pe_str (pa_cons pe_int pa_nil))) (pa_cons (pe_tup (pa_cons pe_str pa_nil)) (pa_cons (pe_tup (pa_cons pe_str (pa_cons pe_int (pa_cons pe_int pa_nil)))) (pa_cons (pe_tup (pa_cons pe_str pa_nil)) pa_nil))))))))
  (pss_cons (ps_for (passes_of rfl) rfl (pi_range1 rfl B.b_range (pa_cons pe_int pa_nil)) (pg_name (i := 4) sc_law_right.nd rfl (by first | exact Or.inl rfl | exact Or.inr rfl))
    (pss_cons (ps_set (i := 5) sc_law_right.nd rfl (by first | exact Or.inl rfl | exact Or.inr rfl) (pe_callTy (c_tupK (K := K) rfl) (by rfl) B.b_tuple (by decide +kernel) (pa_cons (pe_df G_law_bent (hr.mono (by decide)) (L2N.passes_call (L2N.takes_of rfl rfl rfl rfl) fun _ _ _ _ z => z) (pa_cons (pv 0) (pa_cons (pv 1) (pa_cons (pv 3) pa_nil)))) pa_nil)))
  (pss_cons (ps_set (i := 6) sc_law_right.nd rfl (by first | exact Or.inl rfl | exact Or.inr rfl) (pe_df G_law_n_breach (hr.mono (by decide)) (L2N.passes_call (L2N.takes_of rfl rfl rfl rfl) fun _ _ _ _ z => z) (pa_cons (pv 1) (pa_cons (pv 5) pa_nil))))
  (pss_one (ps_if (PW.pt (pw_or (pt_cmpR op_ne (pe_df G_is_against (hr.mono (by decide)) (L2N.passes_call (L2N.takes_of rfl rfl rfl rfl) fun _ _ _ _ z => z) (pa_cons (pv 2) (pa_cons (pv 5) pa_nil))) (pv 6) (nomark _)) (pw_or1 (pt_cmpR op_ne (pe_dfK0 (ks := ["value", "plan"]) (g := sw) (gV := sw) L_is_against T.d_is_against (fun _ _ _ _ _ _ us hl => match us, hl with | [_, _], _ => rfl) (fun r l => rel_sw r l) (hr.mono (by decide)) (L2N.passes_call (L2N.takes_of rfl rfl rfl rfl) fun _ _ _ _ z => z) (pk_cons (pv 5) (pk_cons (pv 2) pk_nil))) (pv 6) (nomark _)))))
    (pss_one (ps_ret pe_bl))
    pss_nil)))))
  (pss_cons (ps_asg (pe_tup (pa_cons (pe_df G_law_pick (hr.mono (by decide)) (L2N.passes_call (L2N.takes_of rfl rfl rfl rfl) fun _ _ _ _ z => z) (pa_cons (pv 0) (pa_cons (pe_lst (pa_cons pe_non (pa_cons (pe_callTy (c_lstK (K := K) rfl) (by rfl) B.b_list (by decide +kernel) (pa_cons (pv 3) pa_nil)) (pa_cons (pe_op (op_catAK (K := K) rfl) (pv 3) (pe_tup (pa_cons pe_non pa_nil))) (pa_cons (pe_op (op_catAK (K := K) rfl) (pv 3) (pe_tup (pa_cons (pe_tup (pa_cons pe_str (pa_cons pe_int pa_nil))) pa_nil))) (pa_cons (pe_op (op_catAK (K := K) rfl) (pv 3) (pe_tup (pa_cons (pe_tup (pa_cons pe_str (pa_cons pe_int pa_nil))) pa_nil))) (pa_cons pe_int (pa_cons pe_str (pa_cons pe_dnewK (pa_cons (pe_op (op_repB (K := K) rfl) (pe_tup (pa_cons (pe_tup (pa_cons pe_str pa_nil)) pa_nil)) pe_int) (pa_cons (pe_tup (pa_cons (pv 3) pa_nil)) pa_nil))))))))))) pa_nil))) (pa_cons (pe_df G_law_pick (hr.mono (by decide)) (L2N.passes_call (L2N.takes_of rfl rfl rfl rfl) fun _ _ _ _ z => z) (pa_cons (pv 0) (pa_cons (pe_df G_law_odd_values (hr.mono (by decide)) (L2N.passes_call (L2N.takes_of rfl rfl rfl rfl) fun _ _ _ _ z => z) (pa_cons (pv 0) pa_nil)) pa_nil))) pa_nil))) (pg_tupK (K := K) (n := 2) rfl rfl (pgs_cons (pg_name (i := 7) sc_law_right.nd rfl (by first | exact Or.inl rfl | exact Or.inr rfl)) (pgs_cons (pg_name (i := 9) sc_law_right.nd rfl (by first | exact Or.inl rfl | exact Or.inr rfl)) pgs_nil))))
  (pss_cons (ps_set (i := 8) sc_law_right.nd rfl (by first | exact Or.inl rfl | exact Or.inr rfl) (pe_lst (pa_cons (pe_lam1 (P := P0) (k := 9) (q := qR) (hq := by kernel_rfl) GR (refused_gives T.g_BadArgument T.xc_BadArgument T.xr_BadArgument_BadArgument) TB rfl (hr.mono (by decide)) (LamX.lamS_by (by kernel_rfl)) (fun A outer s H E f c' hr => (pe_df G_is_safe (hr.mono (by decide)) (L2N.passes_call (takes_down (L2.takes_of rfl rfl rfl rfl)) fun _ _ _ _ z => z) (pa_cons (pv 9) pa_nil)))) (pa_cons (pe_lam1 (P := P0) (k := 9) (q := qR) (hq := by kernel_rfl) GR (refused_gives T.g_BadArgument T.xc_BadArgument T.xr_BadArgument_BadArgument) TB rfl (hr.mono (by decide)) (LamX.lamS_by (by kernel_rfl)) (fun A outer s H E f c' hr => (pe_df G_course_against (hr.mono (by decide)) (L2N.passes_call (takes_down (L2.takes_of rfl rfl rfl rfl)) fun _ _ _ _ z => z) (pa_cons (pv 9) pa_nil)))) (pa_cons (pe_lam1 (P := P0) (k := 9) (q := qR) (hq := by kernel_rfl) GR (refused_gives T.g_BadArgument T.xc_BadArgument T.xr_BadArgument_BadArgument) TB rfl (hr.mono (by decide)) (LamX.lamS_by (by kernel_rfl)) (fun A outer s H E f c' hr => (pe_df G_is_against (hr.mono (by decide)) (L2N.passes_call (takes_down (L2.takes_of rfl rfl rfl rfl)) fun _ _ _ _ z => z) (pa_cons (pv 9) (pa_cons (pe_tup pa_nil) pa_nil))))) (pa_cons (pe_lam1 (P := P0) (k := 9) (q := qR) (hq := by kernel_rfl) GR (refused_gives T.g_BadArgument T.xc_BadArgument T.xr_BadArgument_BadArgument) TB rfl (hr.mono (by decide)) (LamX.lamS_by (by kernel_rfl)) (fun A outer s H E f c' hr => (pe_df G_least_reserve (hr.mono (by decide)) (L2N.passes_call (takes_down (L2.takes_of rfl rfl rfl rfl)) fun _ _ _ _ z => z) (pa_cons (pv 9) pa_nil)))) pa_nil))))))
  (pss_one (ps_ret (pe_and (pe_cmpR (op_eqDK (K := K) rfl hr.units) (pv 8) (pe_op op_rep (pe_lst (pa_cons pe_str pa_nil)) pe_int) (nomark _)) (pe_and (pe_cmpR op_isBl (pe_df G_is_against (hr.mono (by decide)) (L2N.passes_call (L2N.takes_of rfl rfl rfl rfl) fun _ _ _ _ z => z) (pa_cons (pv 2) (pa_cons (pv 7) pa_nil))) pe_bl (nomark _)) (pe_one (pe_cmpR op_eq (pe_df G_is_against (hr.mono (by decide)) (L2N.passes_call (L2N.takes_of rfl rfl rfl rfl) fun _ _ _ _ z => z) (pa_cons (pv 2) (pa_cons (pv 3) pa_nil))) (pe_df G_law_n_breach (hr.mono (by decide)) (L2N.passes_call (L2N.takes_of rfl rfl rfl rfl) fun _ _ _ _ z => z) (pa_cons (pv 1) (pa_cons (pv 3) pa_nil))) (nomark _)))))))))))))), ?_⟩
    walk_at "go"
    refine ⟨a, c, rfl, hd, by omega, fun l sh ss most late reserve H1 pok hl l1 hsh p1 nlp d1 o1 => ?_⟩
    walk_at "go"
    refine ⟨l, sh, ss, most, late, reserve, rfl, l1, p1, pok, fun H3 p dx e3 hp3 o3 => ?_⟩
    have nla : l ≠ a := fun z => by
      obtain ⟨_, _, _, e, _⟩ := hd
      rw [← z, hl] at e; cases e
    obtain ⟨ps0, hP0, _, _⟩ := htab
    have nlP : l ≠ P0 := fun z => by
      rw [z, hP0] at hl; cases hl
    have l3 := o3.at nin_nil l1
    have oA : Off [a] H H3 := o1.trans (o3.mono (by simp))
    have t3 : TabS H3 P0 qR := SH.TabS.off ⟨ps0, hP0, by assumption, by assumption⟩ oA (by simpa using naP.symm) hd.noext
    have hpH : H p = none := o1.back hp3
    have npa : p ≠ a := fun z => by
      obtain ⟨_, _, _, e, _⟩ := hd
      rw [← z, hpH] at e; cases e
    have npP : p ≠ P0 := fun z => by
      rw [z, hP0] at hpH; cases hpH
    have nlp : l ≠ p := ne_of_none l1 hp3
    have ph : PlanH K H3 p sh ss most late reserve := ⟨⟨dx, e3⟩, p1.off o3, pok⟩
    have d3 := d1.off o3 nin_nil
    have base0 : ∀ (H' : Hp) (t : Addr) (xs : List V) (sts : List Stp), Off [] H3 H' → SqT K H' t xs → StepsAt K H' xs sts → (∀ st ∈ sts, st.ok ss.length) → xs.length ≤ 100 → t ≠ a → t ≠ p → t ≠ P0 → RtI K H H' a l p t P0 ss most late reserve xs sts (c + 40) := fun H' t xs sts o h1 h2 h3 h4 h5 h6 h7 =>
      { dice := d3.off o nin_nil, own := ⟨sh, ⟨o.at nin_nil l3, (p1.off o3).off o, pok⟩⟩, plan := ⟨sh, ph.off o (by simp)⟩, at_ := h1, sts_ := h2, ok := h3, len := h4, tab := SH.TabS.off t3 o nin_nil NoExt.nil, off := (oA.trans (o.mono (by simp))).mono (by simp), nla := nla, nlp := nlp, npa := npa, nlP := nlP, npP := npP, naP := naP, nta := h5, ntp := h6, ntP := h7, new := hpH }
    have npt : ∀ {H' : Hp} {t : Addr} {xs : List V}, Off [] H3 H' → H' t = some (.tup xs) → t ≠ a ∧ t ≠ p ∧ t ≠ P0 := fun {H' t xs} o e => by
      refine ⟨fun z => ?_, fun z => ?_, fun z => ?_⟩
      · obtain ⟨_, _, _, e2, _⟩ := d3.off o nin_nil
        rw [z, e2] at e; cases e
      · rw [z, o.at nin_nil e3] at e; cases e
      · obtain ⟨ps1, hP1, _, _⟩ := SH.TabS.off t3 o nin_nil NoExt.nil
        rw [z, hP1] at e; cases e
    clear hl hsh hd hP0 e3
    walk_at "go"
    refine g_cut (fun σ' H' => ∃ v, σ' = [some (.ref a), some (.ref l), some (.ref p), some v, none, none, none, none, none, none] ∧ Off [] H3 H' ∧ (v = .non ∨ ∃ t xs sts, v = .ref t ∧ RtI K H H' a l p t P0 ss most late reserve xs sts (c + 40))) ?_ ?_
    · walk_at "go"
      refine .inl ⟨p, sh, ss, most, late, reserve, rfl, ph, fun safe => ?_, fun safe t H4 xs e4 st4 o4 => ?_⟩
      · walk_at "go"
        exact ⟨_, rfl, .refl _ _, .inl rfl⟩
      · obtain ⟨ok, len⟩ := crs_fit pok safe
        obtain ⟨n1, n2, n3⟩ := npt o4 e4
        walk_at "go"
        exact ⟨_, rfl, o4, .inr ⟨t, xs, _, rfl, base0 H4 t xs _ o4 (.of e4) st4 ok (by rw [Paired.length st4]; exact len) n1 n2 n3⟩⟩
    rintro σ' H4 ⟨v, rfl, o4, hv⟩
    refine g_cut (fun σ' H' => ∃ t xs sts, σ' = [some (.ref a), some (.ref l), some (.ref p), some (.ref t), none, none, none, none, none, none] ∧ RtI K H H' a l p t P0 ss most late reserve xs sts (c + 40)) ?_ ?_
    · rcases hv with rfl | ⟨t, xs, sts, rfl, ri⟩
      · walk_at "go"
        refine ⟨rfl, ?_⟩
        walk_at "go"
        rename_i q1 e1 q2 e2 q3 e3 q4 e4 q5 e5 q6 e6
        have o6 := o4.trans ((((((Off.new (o := .tup [.str "land", .int 0, .int 1]) e1).new2 e2).new2 e3).new2 e4).new2 e5).new2 (o := .tup [.ref q1, .ref q2, .ref q3, .ref q4, .ref q5]) e6)
        obtain ⟨n1, n2, n3⟩ := npt o6 upd_same
        have n0 := pok.n0
        refine ⟨_, _, [.land 0 1, .tell 0, .tick, .land 0 1, .tick], rfl, base0 _ q6 [.ref q1, .ref q2, .ref q3, .ref q4, .ref q5] _ o6 (.of upd_same) ?_ ?_ (Nat.le_of_ble_eq_true rfl) n1 n2 n3⟩
        · exact .cons ⟨q1, rfl, .of (by walk_at "hp")⟩ (.cons ⟨q2, rfl, .of (by walk_at "hp")⟩ (.cons ⟨q3, rfl, .of (by walk_at "hp")⟩ (.cons ⟨q4, rfl, .of (by walk_at "hp")⟩ (.cons ⟨q5, rfl, .of (by walk_at "hp")⟩ .nil))))
        · intro st hst
          simp only [List.mem_cons, List.not_mem_nil, or_false] at hst
          rcases hst with rfl | rfl | rfl | rfl | rfl
          · exact ⟨by omega, by omega, by omega⟩
          · exact (by omega : 0 < ss.length)
          · trivial
          · exact ⟨by omega, by omega, by omega⟩
          · trivial
      · walk_at "go"
        refine ⟨rfl, ?_⟩
        walk_at "go"
        refine br_NF (by intro e; cases e) ?_
        walk_at "go"
        exact ⟨_, xs, sts, rfl, ri⟩
    clear hv o4 base0 npt
    rintro σ' H4 ⟨t, xs, sts, rfl, ri⟩
    walk_at "go"
    clear o1 l1 p1 d1 o3 l3 oA t3 hpH d3 ph hp3
    refine forR_mk (fun i σ H5 => ∃ u v z, σ = [some (.ref a), some (.ref l), some (.ref p), some (.ref t), u, v, z, none, none, none] ∧ RtI K H H5 a l p t P0 ss most late reserve xs sts (c + 40 + 20 * (i : Int))) (by omega) ⟨none, none, none, rfl, ri.mono (by omega)⟩ (fun i σ H5 hi hP => ?_) (fun σ H5 hP => ?_)
    · obtain ⟨u, v, z, rfl, ri⟩ := hP
      obtain ⟨sh1, ho⟩ := ri.own
      have hi6 : i < 6 := by omega
      walk_at "go"
      refine ⟨a, l, sh1, ss, most, late, reserve, t, xs, _, rfl, ri.dice, by omega, nla, ho, ri.at_, AllSt.of ri.sts_ ri.ok, ri.len, fun H6 r ys e6 al len6 d6 o6 => ?_⟩
      have ri6 := ri.dc o6 d6
      walk_at "go"
      rename_i y hy
      have o7 : Off [] H6 (upd H6 y (.tup ys)) := .new hy
      have ri7 := ri6.nil o7
      obtain ⟨st2, s1, s2⟩ := (al.off o7).list
      have hyl : ys.length = st2.length := Paired.length s1
      have aty : SqT K (upd H6 y (.tup ys)) y ys := .of upd_same
      obtain ⟨sh7, ho7⟩ := ri7.own
      generalize upd H6 y (.tup ys) = H7 at *
      clear o6 ri6 ri o7 e6 d6 ho
      refine ⟨l, sh7, ss, most, late, reserve, y, ys, st2, rfl, ho7, aty, s1, s2, by omega, fun H8 o8 => ?_⟩
      have ri8 := ri7.nil o8
      obtain ⟨sp8, hp8⟩ := ri8.plan
      walk_at "go"
      refine .inr ⟨p, sp8, ss, most, late, reserve, .ref y, rfl, hp8, .inr (.inr ⟨y, ys, _, [p], rfl, ⟨o8.seqT aty, items_of (s1.off o8) s2⟩, by simp, by omega, fun H9 sh9 hp9 o9 => ?_⟩)⟩
      have ri9 := ri8.pl o9 hp9
      walk_at "go"
      refine g_neB ?_
      walk_at "go"
      refine .inr ⟨p, sh9, ss, most, late, reserve, .ref y, rfl, hp9, .inr (.inr ⟨y, ys, _, [p], rfl, ⟨o9.seqT (o8.seqT aty), items_of ((s1.off o8).off o9) s2⟩, by simp, by omega, fun H10 sh10 hp10 o10 => ?_⟩)⟩
      have ri10 := ri9.pl o10 hp10
      walk_at "go"
      refine g_neB ?_
      walk_at "go"
      exact ⟨_, _, _, rfl, ri10.mono (by omega)⟩
    obtain ⟨u, v, z, rfl, ri⟩ := hP
    have ne0 : ∀ {v : V}, (∀ x, v ≠ .ref x) → ∀ q ∈ [a, p, P0], v ≠ .ref q := fun h q _ => h q
    walk_at "go"
    refine g_lstT ri.at_ fun x1 h1 => ?_
    have A1 : AllNo K [a, p, P0] ss.length (Sea.new ss most late reserve) (upd H5 x1 (.lst xs)) [.ref x1] := AllNo.cons (.inl ⟨.lst, .lst (.of upd_same), by decide, ri.fresh h1⟩) AllNo.nil
    replace ri := ri.nil (.new h1 (o := .lst xs))
    generalize upd H5 x1 (.lst xs) = H6 at *
    clear h1
    walk_at "go"
    rename_i n1 hn1
    have sz : ∀ {k : Nat}, k ≤ 10 → xs.length + k ≤ sizeLine := fun {k} h => by
      have := ri.len
      rw [PySem.sizeLine_eq]; omega
    have rn := ri.nil (.new hn1 (o := .tup [.non]))
    refine g_catA rn.at_ (.of upd_same) (sz (k := 1) (by decide)) fun x2 H7 s2 o2 => ?_
    replace ri := rn.nil o2
    have A2 : AllNo K [a, p, P0] ss.length (Sea.new ss most late reserve) H7 [.ref x2, .ref x1] := AllNo.cons (ri.crse s2 (.inl ⟨.non, .non, by decide⟩) (ne0 (fun _ z => by cases z))) (A1.off ((Off.new hn1).trans o2))
    clear rn A1 s2 o2 hn1
    walk_at "go"
    rename_i n2 hn2 n3 hn3
    have rn := (ri.nil (.new hn2 (o := .tup [.str "tick", .int 1]))).nil (.new hn3 (o := .tup [.ref n2]))
    refine g_catA rn.at_ (.of upd_same) (sz (k := 1) (by decide)) fun x3 H8 s3 o3 => ?_
    have A3 : AllNo K [a, p, P0] ss.length (Sea.new ss most late reserve) H8 [.ref x3, .ref x2, .ref x1] := AllNo.cons ((rn.nil o3).crse s3 (.inr (.inl ⟨n2, [.str "tick", .int 1], rfl, o3.seqT (.of (upd_new upd_same hn3)), by kernel_rfl, by decide, by kernel_rfl⟩)) (ri.fresh hn2)) (A2.off (((Off.new hn2).new2 hn3).trans o3))
    replace ri := rn.nil o3
    clear rn A2 s3 o3 hn2 hn3
    walk_at "go"
    rename_i n4 hn4 n5 hn5
    have rn := (ri.nil (.new hn4 (o := .tup [.str "tell", .int 9]))).nil (.new hn5 (o := .tup [.ref n4]))
    refine g_catA rn.at_ (.of upd_same) (sz (k := 1) (by decide)) fun x4 H9 s4 o4 => ?_
    have n15 := pok.n1
    have A4 : AllNo K [a, p, P0] ss.length (Sea.new ss most late reserve) H9 [.ref x4, .ref x3, .ref x2, .ref x1] := AllNo.cons ((rn.nil o4).crse s4 (.inr (.inl ⟨n4, [.str "tell", .int 9], rfl, o4.seqT (.of (upd_new upd_same hn5)), by kernel_rfl, by decide, tell9 (by omega)⟩)) (ri.fresh hn4)) (A3.off (((Off.new hn4).new2 hn5).trans o4))
    replace ri := rn.nil o4
    clear rn A3 s4 o4 hn4 hn5
    walk_at "go"
    rename_i n6 hn6 n7 hn7 n8 hn8
    have rn := (ri.nil (.new hn6 (o := .dK []))).nil ((Off.new hn7 (o := .tup [.str "tick"])).new2 hn8 (o := .tup [.ref n7]))
    refine g_repB (.of upd_same) (by simp) (by decide) (by decide) (by simp) fun x5 hx5 => ?_
    have A5 : AllNo K [a, p, P0] ss.length (Sea.new ss most late reserve) (upd (upd (upd (upd H9 n6 (.dK [])) n7 (.tup [.str "tick"])) n8 (.tup [.ref n7])) x5 (.tup (List.replicate (Int.toNat 5001) [V.ref n7]).flatten)) [.ref x5, .ref n6, .ref x4, .ref x3, .ref x2, .ref x1] :=
      AllNo.cons (.inr (.inl ⟨x5, _, rfl, .of upd_same, by rw [PyProof.Rows.lm_len_rep_flat, List.length_singleton]; decide⟩)) (AllNo.cons (.inl ⟨.dct, .dct (upd_new (upd_new (upd_new upd_same hn7) hn8) hx5), by decide, ri.fresh hn6⟩) (A4.off ((((Off.new hn6).new2 hn7).new2 hn8).new2 hx5)))
    replace ri := rn.nil (.new hx5 (o := .tup (List.replicate (Int.toNat 5001) [V.ref n7]).flatten))
    generalize upd (upd (upd (upd H9 n6 (.dK [])) n7 (.tup [.str "tick"])) n8 (.tup [.ref n7])) x5 (.tup (List.replicate (Int.toNat 5001) [V.ref n7]).flatten) = H10 at *
    clear rn A4 hn6 hn7 hn8 hx5
    walk_at "go"
    rename_i n9 hn9 lp hlp
    have net : ∀ q ∈ [a, p, P0], V.ref t ≠ .ref q := by
      intro q hq e
      cases e
      simp only [List.mem_cons, List.not_mem_nil, or_false] at hq
      rcases hq with e | e | e
      · exact ri.nta e
      · exact ri.ntp e
      · exact ri.ntP e
    have on9 : Off [] H10 (upd H10 n9 (.tup [.ref t])) := .new hn9
    have ri9 := ri.nil on9
    have A6 : AllNo K [a, p, P0] ss.length (Sea.new ss most late reserve) (upd H10 n9 (.tup [.ref t])) [.ref n9, .ref x5, .ref n6, .ref x4, .ref x3, .ref x2, .ref x1] :=
      AllNo.cons (.inr (.inr ⟨n9, [.ref t], [none], rfl, ⟨.of upd_same, .cons ⟨odd_steps ri9.at_ ri9.sts_, fun _ => net⟩ .nil⟩, by simp, rfl⟩)) (A5.off on9)
    have AL : AllNo K [a, p, P0] ss.length (Sea.new ss most late reserve) (upd H10 n9 (.tup [.ref t])) [.non, .ref x1, .ref x2, .ref x3, .ref x4, .int 5, .str "", .ref n6, .ref x5, .ref n9] := by
      refine AllNo.cons (.inl ⟨.non, .non, by decide, ne0 (fun _ z => by cases z)⟩) (AllNo.cons (A6 _ (by simp)) (AllNo.cons (A6 _ (by simp)) (AllNo.cons (A6 _ (by simp)) (AllNo.cons (A6 _ (by simp)) (AllNo.cons (.inl ⟨.int, .int _, by decide, ne0 (fun _ z => by cases z)⟩) (AllNo.cons (.inl ⟨.str, .str _, by decide, ne0 (fun _ z => by cases z)⟩) (AllNo.cons (A6 _ (by simp)) (AllNo.cons (A6 _ (by simp)) (AllNo.cons (A6 _ (by simp)) AllNo.nil)))))))))
    clear A5 A6 ri on9 hn9
    generalize upd H10 n9 (.tup [.ref t]) = H11 at *
    have rl := ri9.nil (.new hlp (o := .lst [.non, .ref x1, .ref x2, .ref x3, .ref x4, .int 5, .str "", .ref n6, .ref x5, .ref n9]))
    refine ⟨a, lp, _, _, rfl, rl.dice, by omega, .of upd_same, by simp, by simp, fun z => ri9.fresh hlp a (by simp) (by rw [z]), fun odd H12 hodd d12 o12 => ?_⟩
    have N12 := ((AL odd hodd).off (.new hlp (S := []) (o := .lst [.non, .ref x1, .ref x2, .ref x3, .ref x4, .int 5, .str "", .ref n6, .ref x5, .ref n9])) (by simp)).off o12 (by simp)
    have ri12 := rl.dc o12 d12
    clear rl AL ri9 hodd o12 d12 hlp
    walk_at "go"
    refine ⟨a, _, rfl, ri12.dice, by omega, fun H13 p2 ys e2 hp2 ak l1 l2 d13 o13 => ?_⟩
    have N13 := N12.off o13 (by simp)
    have ri13 := ri12.dc o13 d13
    walk_at "go"
    refine ⟨a, p2, _, ys, rfl, d13, by omega, .of e2, l1, l2, fun z => ri12.fresh hp2 a (by simp) (by rw [z]), fun bad H14 hb d14 o14 => ?_⟩
    obtain ⟨kd, hk⟩ := ak bad hb
    have hk14 := hk.offDice d13 d14 o14
    have N14 := N13.off o14 (by simp)
    have ri14 := ri13.dc o14 d14
    clear N12 ri12 N13 ri13 hk ak hb e2 hp2 o13 o14 d13 d14
    walk_at "go"
    rename_i qt hqt
    have ri15 := ri14.nil (.new hqt (o := .tup [odd, bad]))
    have N15 := N14.off (.new hqt (S := []) (o := .tup [odd, bad])) (by simp)
    have hk15 := hk14.off (.new hqt (S := []) (o := .tup [odd, bad])) (fun _ _ _ _ => nin_nil)
    generalize upd H14 qt (.tup [odd, bad]) = H15 at *
    clear N14 ri14 hk14 hqt
    refine g_lam1 ri15.tab fun H16 o16 t16 => ?_
    have ri16 := ri15.tb o16 t16
    have hk16 := ri15.tab.elim fun _ z => hk15.offTab z.1 o16
    have N16 := N15.off o16 (by simp)
    clear ri15 hk15 N15 o16 t16
    walk_at "go"
    refine .inr ⟨bad, kd, rfl, hk16, g_refE fun d H17 _ o17 => ?_⟩
    have ri17 := ri16.nil o17
    have hk17 := hk16.off o17 (fun _ _ _ _ => nin_nil)
    have N17 := N16.off o17 (by simp)
    clear ri16 hk16 N16 o17
    walk_at "go"
    refine g_lam1 ri17.tab fun H18 o18 t18 => ?_
    have ri18 := ri17.tb o18 t18
    have hk18 := ri17.tab.elim fun _ z => hk17.offTab z.1 o18
    have N18 := N17.off o18 (by simp)
    clear ri17 hk17 N17 o18 t18
    walk_at "go"
    refine .inr ⟨bad, kd, rfl, hk18, g_refE fun d H19 _ o19 => ?_⟩
    have ri19 := ri18.nil o19
    have hk19 := hk18.off o19 (fun _ _ _ _ => nin_nil)
    have N19 := N18.off o19 (by simp)
    clear ri18 hk18 N18 o19
    walk_at "go"
    refine g_lam1 ri19.tab fun H20 o20 t20 => ?_
    have ri20 := ri19.tb o20 t20
    have hk20 := ri19.tab.elim fun _ z => hk19.offTab z.1 o20
    have N20 := N19.off o20 (by simp)
    clear ri19 hk19 N19 o20 t20
    walk_at "go"
    rename_i et het
    refine .inl ⟨bad, .ref et, kd, rfl, hk20.off (.new het (S := [])) (fun _ _ _ _ => nin_nil), g_refE fun d H21 _ o21 => ?_⟩
    have oz : Off [] H20 H21 := (Off.new het).trans o21
    have ri21 := ri20.nil oz
    have hk21 := hk20.off oz (fun _ _ _ _ => nin_nil)
    have N21 := N20.off oz (by simp)
    clear ri20 hk20 N20 o21 oz het
    walk_at "go"
    refine g_lam1 ri21.tab fun H22 o22 t22 => ?_
    have ri22 := ri21.tb o22 t22
    have hk22 := ri21.tab.elim fun _ z => hk21.offTab z.1 o22
    have N22 := N21.off o22 (by simp)
    clear ri21 hk21 N21 o22 t22
    walk_at "go"
    refine .inr ⟨bad, kd, rfl, hk22, g_refE fun d H23 _ o23 => ?_⟩
    have ri23 := ri22.nil o23
    have N23 := N22.off o23 (by simp)
    clear ri22 hk22 N22 o23
    walk_at "go"
    rename_i tl htl pl hpl
    refine g_rep upd_same (by decide) (by decide) (Nat.le_of_ble_eq_true rfl) fun rp hrp => ?_
    have oF : ∀ z, Off [] H23 (upd (upd (upd H23 tl (.lst [.str "plan", .str "plan", .str "plan", .str "plan"])) pl (.lst [.str "plan"])) rp z) := fun z => ((Off.new htl).new2 hpl).new2 hrp
    refine g_eqD (d := .list [.str "plan", .str "plan", .str "plan", .str "plan"]) (e := .list [.str "plan", .str "plan", .str "plan", .str "plan"]) (.lst (.of (upd_new (upd_new upd_same hpl) hrp)) (.cons (.str _) (.cons (.str _) (.cons (.str _) (.cons (.str _) .nil))))) (.lst (.of upd_same) (.cons (.str _) (.cons (.str _) (.cons (.str _) (.cons (.str _) .nil))))) (by kernel_rfl) (by kernel_rfl) ?_
    rw [show PyData.eqv (.list [.str "plan", .str "plan", .str "plan", .str "plan"]) (.list [.str "plan", .str "plan", .str "plan", .str "plan"]) = true from by kernel_rfl]
    have ri24 := ri23.nil (oF (.lst (List.replicate (Int.toNat 4) [V.str "plan"]).flatten))
    have N24 := N23.off (oF (.lst (List.replicate (Int.toNat 4) [V.str "plan"]).flatten)) (by simp)
    generalize upd (upd (upd H23 tl (.lst [.str "plan", .str "plan", .str "plan", .str "plan"])) pl (.lst [.str "plan"])) rp (.lst (List.replicate (Int.toNat 4) [V.str "plan"]).flatten) = H24 at *
    clear ri23 N23 oF htl hpl hrp
    walk_at "go"
    refine ag_no ri24 N24 fun H25 ri25 => ?_
    clear ri24 N24
    walk_at "go"
    refine g_isBF ?_
    walk_at "go"
    obtain ⟨sh25, hp25⟩ := ri25.plan
    have hxl := Paired.length ri25.sts_
    have hx := ri25.len
    refine .inr ⟨p, sh25, ss, most, late, reserve, .ref t, rfl, hp25, .inr (.inr ⟨t, xs, _, [p], rfl, ⟨ri25.at_, items_of ri25.sts_ ri25.ok⟩, by simp, by omega, fun H26 sh26 hp26 o26 => ?_⟩)⟩
    have ri26 := ri25.pl o26 hp26
    walk_at "go"
    obtain ⟨sho, ho⟩ := ri26.own
    refine ⟨l, sho, ss, most, late, reserve, t, xs, sts, rfl, ho, ri26.at_, ri26.sts_, ri26.ok, by omega, fun H27 o27 => ?_⟩
    have ri27 := ri26.nil o27
    walk_at "go"
    refine g_eqB ?_
    walk_at "go"
    exact q _ ri27.off ri27.tab
def spLawX (K : PySem.W.Frag) (P0 : Addr) : Sp := fun vs H Q _ => ∃ (a : Addr) (ns : List Int), vs = [.ref a] ∧ SqL K H a (ns.map V.int) ∧ ns.length ≤ 63 ∧ H P0 = some (.tbl #[]) ∧ a ≠ P0 ∧ ∀ H', Q (.bl true) H'
theorem okL_law (T : Txt P w K mg) {cR P0 : Addr} (hco : CodeOf K mg "_law_right" cR) (TB : TabB base mg cR P0) : DefL P w K mg base "law" 13 ["script"] (spLawX K P0) := by
  refine T.d_law.okL sc_law (fun _ _ _ _ _ _ us hl => match us, hl with | [_], _ => rfl) (fun vs H Q E h => ?_) (fun f cdv A outer s H vs Q E hr h => ?_)
  · obtain ⟨a, ns, rfl, _⟩ := h
    rfl
  · obtain ⟨a, ns, rfl, hs, hn, hP, naP, q⟩ := h
    have ok_law_right : ∀ {base : Heap} (T : Txt P w K mg), True := fun _ => trivial
    have B := T.blt
    have hu := hu_of hr
    have G_law_right := ok_law_right (base := base) T
    have G_law_dice := ok_law_dice (base := base) T
    have G_law_right := SH.ok_law_right T hco TB
    refine ⟨_, (pss_cons (ps_for (passes_of rfl) rfl (pi_range1 rfl B.b_range (pa_cons (pe_callB (c_max2 rfl) (by rfl) B.b_max (by decide +kernel) (pa_cons pe_int (pa_cons (pe_callB (c_min2 rfl) (by rfl) B.b_min (by decide +kernel) (pa_cons pe_int (pa_cons (pe_callB (c_lenK (K := K) rfl) (by rfl) B.b_len PySem.boot_len (pa_cons (pv 0) pa_nil)) pa_nil))) pa_nil))) pa_nil)) (pg_name (i := 1) sc_law.nd rfl (by first | exact Or.inl rfl | exact Or.inr rfl))
    (pss_one (ps_if (pt_not (pt_val (pe_df G_law_right (hr.mono (by decide)) (L2N.passes_call (L2N.takes_of rfl rfl rfl rfl) fun _ _ _ _ z => z) (pa_cons (pe_df G_law_dice (hr.mono (by decide)) (L2N.passes_call (L2N.takes_of rfl rfl rfl rfl) fun _ _ _ _ z => z) (pa_cons (pv 0) (pa_cons (pv 1) pa_nil))) pa_nil)) (by intro _; rfl)))
    (pss_one (ps_ret pe_bl))
    pss_nil)))
  (pss_one (ps_ret pe_bl))), ?_⟩
    walk_at "go"
    refine forR_mk (fun i σ H1 => ∃ t, σ = [some (.ref a), t] ∧ Off [P0] H H1 ∧ TabS H1 P0 qR) (by split <;> split <;> omega) ⟨none, rfl, .refl _ _, TabS.nil hP⟩ (fun i σ H1 hi hP => ?_) (fun σ H1 hP => ?_)
    · obtain ⟨t, rfl, oo, tb⟩ := hP
      have hi3 : i < 3 := by
        revert hi
        split <;> split <;> intro hi <;> omega
      walk_at "go"
      refine ⟨a, (i : Int), ns, rfl, oo.seqL (by simpa using naP) hs, hn, by omega, by omega, fun p H2 hp dd o2 => ?_⟩
      walk_at "go"
      have npP : p ≠ P0 := fun z => by
        obtain ⟨_, e, _⟩ := tb
        rw [z, e] at hp; cases hp
      refine ⟨p, 0, rfl, dd, by omega, SH.TabS.off tb o2 nin_nil NoExt.nil, npP, fun H3 o3 tb3 => ?_⟩
      walk_at "go"
      refine ⟨_, rfl, (oo.trans (o2.mono (by simp))).muts o3 ?_, tb3⟩
      intro u hu
      simp only [List.mem_cons, List.not_mem_nil, or_false] at hu
      rcases hu with rfl | rfl
      · exact .inr (oo.back hp)
      · exact .inl (by simp)
    · obtain ⟨t, rfl, oo, tb⟩ := hP
      walk_at "go"
      exact q _
end
end SH
end

section
/-! #### the walk's words -/
local macro_rules | `(tactic| walk_at "ne0") => `(tactic| first
  | assumption
  | (refine Ne.symm ?_; assumption))
local macro_rules | `(tactic| walk_at "ne") => `(tactic| first
  | assumption
  | (refine Ne.symm ?_; assumption)
  | (refine' L2.ne_of_none ?gx (by assumption); (case gx => walk_at "hp"))
  | (refine' Ne.symm (L2.ne_of_none ?gx (by assumption)); (case gx => walk_at "hp")))
local macro_rules | `(tactic| walk_at "hp") => `(tactic| first
  | assumption
  | exact L2.upd_same
  | (refine' SH.upd_new ?gh (by assumption); (case gh => walk_at "hp"))
  | (refine' (L2.upd_ne ?gn).trans ?gh; (case gn => walk_at "ne0"); (case gh => walk_at "hp"))
  | (refine' SH.Off.at (by assumption) ?gn ?gh; (case gn => walk_at "nin"); (case gh => walk_at "hp")))
local macro_rules | `(tactic| walk_at "nin") => `(tactic| first
  | exact SH.nin_nil
  | (refine SH.nin_cons ?_ ?_; (· walk_at "ne0"); (· walk_at "nin")))
local macro_rules | `(tactic| walk_at "sq") => `(tactic| first
  | assumption
  | (apply L2.SqL.of; (· walk_at "hp"))
  | (apply L2.SqT.of; (· walk_at "hp"))
  | (refine' SH.seqT_new ?gx (by assumption); (case gx => walk_at "sq"))
  | (refine' SH.seqL_new ?gx (by assumption); (case gx => walk_at "sq"))
  | (refine' SH.Off.seqT (by assumption) ?gx; (case gx => walk_at "sq"))
  | (refine' SH.Off.seqL (by assumption) ?gy ?gx; (case gx => walk_at "sq"); (case gy => walk_at "nin")))
local macro_rules | `(tactic| walk_at "kd") => `(tactic| first
  | assumption | exact SH.KdV.int _ | exact SH.KdV.bl _ | exact SH.KdV.str _ | exact SH.KdV.non
  | (apply SH.KdV.tup; (· walk_at "sq")) | (apply SH.KdV.lst; (· walk_at "sq")))
/-- a way that cannot be -/
local macro_rules | `(tactic| walk_at "no") => `(tactic| (exfalso; first | assumption | omega | contradiction | (simp_all; done)))
/-- one step -/
local macro_rules | `(tactic| walk_at "g1") => `(tactic| with_reducible first
  | refine SH.g_var (by with_unfolding_all rfl) ?_ | refine SH.g_c ?_ | refine SH.g_op ?_ | refine SH.g_un ?_ | refine SH.g_I0 ?_ | refine SH.g_U ?_
  | refine SH.g_eqI ?_ | refine SH.g_neI ?_ | refine SH.g_eqS ?_ | refine SH.g_neS ?_
  | refine SH.g_test ?_ | refine SH.g_B ?_ | refine SH.g_isB ?_ | refine SH.g_and ?_ | refine SH.g_or ?_ | refine SH.g_not ?_ | refine SH.g_andV ?_ | refine SH.g_orV ?_ | refine SH.g_notV ?_ | refine SH.g_ifE ?_ | refine SH.g_chain ?_
  | refine SH.g_nil ?_ | refine SH.g_cons ?_ | refine SH.g_tup ?_ | refine SH.g_lst ?_ | refine SH.g_call ?_ | refine SH.g_fld ?_ | refine SH.g_meth ?_ | refine SH.g_make ?_ | refine SH.g_cb ?_ | refine SH.g_bm ?_
  | refine SH.g_seq ?_ | refine SH.g_asg ?_ | refine SH.g_name ?_ | refine SH.g_drop ?_ | refine SH.g_ret ?_ | refine SH.g_retN ?_ | refine SH.g_next ?_ | refine SH.g_brk ?_ | refine SH.g_cnt ?_ | refine SH.g_ifs ?_ | refine SH.g_par ?_ | refine SH.g_par2 ?_ | refine SH.g_fldS ?_ | refine SH.g_raise ?_ | refine SH.g_rs ?_
  | refine SH.g_sub ?_ | refine SH.g_yes ?_ | refine SH.g_sl ?_ | refine SH.g_noPart ?_ | refine SH.g_part ?_ | refine SH.g_intO ?_ | refine SH.g_dget ?_ | refine SH.g_dput ?_ | refine SH.g_forR ?_ | refine SH.g_forL ?_ | refine SH.g_forT ?_ | refine SH.g_lcR ?_ | refine SH.g_lcL ?_ | refine SH.g_lcT ?_ | refine SH.g_gcons ?_ | refine SH.g_gnil ?_
  | refine SH.br_t ?_ | refine SH.br_f ?_
  | refine SH.g_int ?_ | refine SH.g_abs ?_ | refine SH.g_max2 ?_ | refine SH.g_min2 ?_)
local macro_rules | `(tactic| walk_at "g2") => `(tactic| first
  | walk_at "g1"
  | ((with_reducible refine' SH.g_isiInt ?ga ?gz); (case ga => walk_at "kd"))
  | ((with_reducible refine' SH.g_isiBool ?ga ?gz); (case ga => walk_at "kd"))
  | ((with_reducible refine' SH.g_isiStr ?ga ?gz); (case ga => walk_at "kd"))
  | ((with_reducible refine' SH.g_isiTup ?ga ?gz); (case ga => walk_at "kd"))
  | ((with_reducible refine' SH.g_ixT ?ga ?gb ?gz); (case ga => walk_at "sq"); (case gb => rfl))
  | ((with_reducible refine' SH.g_ixL ?ga ?gb ?gz); (case ga => walk_at "sq"); (case gb => first | rfl | (apply SH.atI_refs; assumption)))
  | ((with_reducible refine SH.br_F ?_ ?_); (· decide +kernel)) | ((with_reducible refine SH.br_T ?_ ?_); (· decide +kernel)) | ((with_reducible refine SH.br_NF ?_ ?_); (· decide +kernel)) | ((with_reducible refine SH.br_NT ?_ ?_); (· decide +kernel))
  | ((with_reducible refine' SH.g_gtup ?ga ?gb ?gz); (case ga => walk_at "sq"); (case gb => rfl))
  | ((with_reducible refine' SH.g_lenT ?ga ?gz); (case ga => walk_at "sq"))
  | ((with_reducible refine' SH.g_lenL ?ga ?gz); (case ga => walk_at "sq"))
  | ((with_reducible refine SH.g_mkT (SH.sz rfl) ?_); intro _ _)
  | ((with_reducible refine SH.g_mkL (SH.sz rfl) ?_); intro _ _)
  | ((with_reducible refine SH.g_dnew ?_); intro _ _)
  | ((with_reducible refine' SH.g_tupL ?ga ?gz); (case ga => walk_at "sq"); intro _ _)
  | ((with_reducible refine' SH.g_lstL ?ga ?gz); (case ga => walk_at "sq"); intro _ _)
  | ((with_reducible refine' SH.g_lstT ?ga ?gz); (case ga => walk_at "sq"); intro _ _)
  | ((with_reducible refine' SH.g_dgR ?ga ?gb ?gz); (case ga => walk_at "hp"); (case gb => walk_at "dv"))
  | ((with_reducible refine' SH.g_fldR ?ga ?gb ?gc ?gd ?gz); (case ga => walk_at "hp"); (case gb => walk_at "cl"); (case gc => walk_at "na"); (case gd => walk_at "fv"))
  | ((with_reducible refine' SH.g_insR ?ga ?gb ?gz); (case ga => walk_at "hp"); (case gb => walk_at "fn"))
  | ((with_reducible refine' SH.g_setL ?ga ?gb ?gz); (case ga => walk_at "hp"); (case gb => rfl))
  | ((with_reducible refine SH.g_I ?_ ?_); (· walk_at "ci"))
  | ((with_reducible refine' SH.g_slL ?ga ?gz); (case ga => walk_at "sq"); intro _ _)
  | ((with_reducible refine' SH.g_cat ?ga ?gb ?gc ?gz); (case ga => walk_at "hp"); (case gb => walk_at "hp"); (case gc => walk_at "ls"); intro _ _))
/-- the side conditions of numbers: a divisor, a factor -/
local macro_rules | `(tactic| walk_at "ci") => `(tactic| first
  | (show _ ≠ _; omega) | (show _ < _; omega) | (constructor <;> omega) | (refine Or.inr ⟨?_, ?_⟩ <;> (show _ < _; omega)) | (refine Or.inl ⟨?_, ?_⟩ <;> (show _ < _; omega)) | (refine ⟨?_, ?_, ?_⟩ <;> decide))
local macro_rules | `(tactic| walk_at "ls") => `(tactic| first | (show _ ≤ _; exact Nat.le_trans (by assumption) (by decide)) | (show _ ≤ _; exact Nat.le_trans (by simp; omega) (by decide : 1000 ≤ sizeLine)))
local macro_rules | `(tactic| walk_at "dv") => `(tactic| rfl)
local macro_rules | `(tactic| walk_at "fv") => `(tactic| rfl)
local macro_rules | `(tactic| walk_at "fn") => `(tactic| rfl)
local macro_rules | `(tactic| walk_at "cl") => `(tactic| assumption)
local macro_rules | `(tactic| walk_at "na") => `(tactic| assumption)
local macro_rules | `(tactic| walk_at "go") => `(tactic| repeat walk_at "g2")
/-- a way is split -/
local macro_rules | `(tactic| walk_at "br") => `(tactic| with_reducible first
  | refine SH.br_d (fun _ => ?_) (fun _ => ?_) | refine SH.br_nd (fun _ => ?_) (fun _ => ?_) | refine SH.br_b (fun _ => ?_) (fun _ => ?_))
/-- all ways -/
local macro_rules | `(tactic| walk_at "all") => `(tactic| repeat' first | walk_at "g2" | (walk_at "br" <;> try (walk_at "no")))
/-- a truth value is the other -/
local macro_rules | `(tactic| walk_at "bq") => `(tactic| first | rfl | (simp_all; done) | (simp_all; omega) | (simp only [decide_eq_true_eq, decide_eq_false_iff_not, Bool.and_eq_true, Bool.or_eq_true] at *; omega))
/-- what was tracked is as it was -/
local macro_rules | `(tactic| walk_at "of") => `(tactic| first
  | assumption
  | exact SH.Off.refl _ _
  | (refine' SH.Off.new2 ?gx (by assumption); (case gx => walk_at "of"))
  | (refine' SH.Off.mut ?gx (by assumption); (case gx => walk_at "of"))
  | (refine' SH.Off.trans' ?gx (by assumption) ?gy; (case gy => (intro _ h; (first | exact h | (simp at h; done) | (simp at h ⊢; simp [h]; done)))); (case gx => walk_at "of")))
namespace SH
open PySem PySem.Spec PyProof.Rows L2 LamX
theorem facts {w : World} {K : PySem.W.Frag} {h : Heap} {mg : Str → Option Value} {f cR P0 : Addr} (X : K.In h) (G : h.Ns mainGlobals mg) (hfa : mg ("law" : Str) = some (.ref f)) (c : Hq.obsQ fa fn xs ex thePr K = Hq.valQ fn xs) (ht : PySem.W.tabIn K "_law_right" = some (cR, P0)) :
    ∃ fd : FuncData, (∀ (s : Shared) (v : Value), BindsTo s fd ⟨[v], []⟩ [("script", v)]) ∧ ∀ base : Heap, TabB base mg cR P0 → FnOk thePr w K mg base (L2N.CX thePr w) 13 f fd ["script"] (spLawX K P0) := by
  have T : Txt thePr w K mg := txt_of X G c
  obtain ⟨f1, fd, F, hm⟩ := T.d_law
  cases hfa.symm.trans hm
  have b := FunD.bindsA (ps := ["script"]) F fun _ _ _ _ _ _ us hl => match us, hl with | [_], _ => rfl
  refine ⟨fd, fun s v => b s [v] rfl, fun base TB => ?_⟩
  obtain ⟨f2, fd2, G2, m2, _, _, oc, od, osl, lk2⟩ := okL_law (base := base) T (codeOf_tab X G ht) TB
  cases hfa.symm.trans m2
  obtain ⟨oc1, od1, dV, kV, doc, pm, an, cdv, ct, osl1, rfl, lk, _, _, _⟩ := F.ex
  cases lk.symm.trans lk2
  exact G2
theorem rec_ok : ((recsOf (PySem.W.view R.prog [at_law_right, lawAt])).find? (fun e => e.name == ("_law_right" : Str))).isSome = true := by kernel_rfl
end SH
open PySem PySem.W PySem.Calls PyProof.Rows
theorem PySem.Challenge.cw_surehaul_k05_whole_courses_judged_holds : PySem.Challenge.rw_surehaul_k05_whole_courses_judged.Holds := by
  w_on; o_law
  refine HandSHeadRun.head_any (r := OpenLaw.row PySem.Challenge.rw_surehaul_k05_whole_courses_judged) (q := view (OpenLaw.row PySem.Challenge.rw_surehaul_k05_whole_courses_judged).prog [SH.at_law_right, SH.lawAt]) (H := SH.hk) (ob := SH.ob) (M := 4000) (loose := SH.loose) (d := HandSHeadRun.topDef (OpenLaw.row PySem.Challenge.rw_surehaul_k05_whole_courses_judged).prog SH.lawAt) (kwd := []) SH.ob_eq
    (by kernel_rfl) (fun s => by kernel_rfl) SH.run (by kernel_rfl) (by kernel_rfl) (by kernel_rfl) (by rfl) (by first | assumption | decide +kernel) (by decide +kernel) ⟨rfl, rfl, rfl, rfl, rfl, by decide +kernel⟩ ?hw ?hc
  case hw => w_witness2
  case hc =>
    refine SH.walk_ofT5 (l := PySem.Challenge.rw_surehaul_k05_whole_courses_judged) (n := 63) (k := 13) (x := "script") (CX := fun w => L2N.CX SH.thePr w) rfl (by decide) (by kernel_rfl) ⟨rfl, by decide, by decide⟩ ?F (fun _ _ _ _ _ z => ?C)
    case C =>
      obtain ⟨_, _, _, _, _, _, _, _, _, _, _, _, q⟩ := z
      exact q
    intro w mg fa h Y G hmg0 TO
    obtain ⟨K, KX, c⟩ := Y
    have hmg : mg ("law" : PySem.Str) = some (.ref fa) := by
      have e : (HandSHeadRun.topDef (OpenLaw.row PySem.Challenge.rw_surehaul_k05_whole_courses_judged).prog SH.lawAt).name = ("law" : PySem.Str) := by kernel_rfl
      rw [← e]
      exact hmg0
    obtain ⟨cR, P0, ht, hn⟩ := SH.tab_law_right c
    obtain ⟨d, hd⟩ := Option.isSome_iff_exists.mp SH.rec_ok
    obtain ⟨C, hP⟩ := TO K "_law_right" cR P0 d KX hd ht
    obtain ⟨fd, hb, hF⟩ := SH.facts (w := w) KX G hmg c ht
    have one : ∀ {φ : Addr × Addr → Prop}, φ (cR, P0) → ∀ p ∈ [(cR, P0)], φ p := fun h p hp => by
      rw [List.mem_singleton.mp hp]
      exact h
    exact ⟨K, KX, fd, [(cR, P0)], SH.spLawX K P0, one hP, one hn, one C, hb, fun H a ns hl _ hT hS => ⟨a, ns, rfl, hS, hl, hT _ (List.mem_singleton.mpr rfl), SH.sql_ne hS (hT _ (List.mem_singleton.mpr rfl)) hn, fun _ => rfl⟩, fun base _ _ TB => hF base (TB _ (List.mem_singleton.mpr rfl))⟩
end
