import PyProof.Rows.All
import Wide.All
import OpenK.AllK
import Wide.FinOn
import PyProof.EqAt
import PyProof.EqKinds
import PyProof.TupleCall
import PyProof.ReprRoads
import KE.KSuper
import KE.KExcSuper
import HandS.Base
import HandS.Call
import HandS.List
import HandS.Comp
import HandS.Ends
import HandS.Dict
import HandS.Iter
import HandS.Text
import HandS.More
import HandS.Exc
import HandS.ExcOwn
import HandS.ExcCtx
import HandS.ExcInit
import HandS.ExcSuper
import HandS.ExcField
import HandS.ExcIs
import HandS.TryOnly
import HandS.TryMany
import HandS.IsInst
import HandS.Defaults
import HandS.Words
import HandS.WordsList
import HandS.WordsDict
import HandS.WordsExc
import HandS.Flow
import HandS.Codes
import HandS.HeadEnd
import HandS.HeadHook1
import HandS.HeadHook2
import HandS.HeadHook3
import HandS.HeadHook4
import KE.KExcIs
import PyProof.Rows.RegFStrParts
import PyProof.SeqIndex
import KE.GoesEnum
import HandS.MakeKw
import PyProof.InstNe
import HandS.SuiteRaise
import HandS.RaiseFrom
import HandS.Lambda
import HandS.TupMul
import HandS.TupAny
import HandS.Style
import HandS.EndTab
import HandS.EndOwn
import HandS.HeadWalk
import KE.KNest
import HandS.Deep
import HandS.RaiseMore
import HandS.Star
import HandS.FStr
import HandS.StrMore
import PySem.Challenge.RW_surehaul_k07_whole_texts
import HandS.Head0
import HandS.Head1
import HandS.Head2
import PyProof.Rows.StrDigitsNeg
import HandS.Wide
import PyProof.StrOps2
set_option Elab.async false
set_option linter.all false
set_option maxRecDepth 100000
set_option maxHeartbeats 4000000
section
/-! ### the framework: promises by names, walks by steps -/
namespace SH
open PySem PySem.Spec PyProof.Rows L2

theorem passN {X : Cx} : Passes (L2N.CX X.prog X.w) X (fun _ _ _ => False) := fun _ _ _ _ _ _ _ h => by
  obtain ⟨_, _, _, _, _, _, _, _, _, _, _, _, q⟩ := h
  exact q.elim
/-! #### defs by their names -/
/-- the module's own name x is a def (the statement st) -/
def TopD (K : PySem.W.Frag) (mg : Str → Option Value) (x : Str) (st : Stmt) : Prop :=
  ∃ f fd, FunD K x x (defArgs st) (defBody st) (defScope st) [] [] f fd ∧ mg x = some (.ref f)
/-- the method m of the class at C (the statement st) -/
def TopM (K : PySem.W.Frag) (C : Addr) (m qual : Str) (st : Stmt) : Prop :=
  ∃ f fd, FunD K m qual (defArgs st) (defBody st) (defScope st) [] [] f fd ∧ Meth K C m f
/-- the class at C is made by its __init__ (the statement st) -/
def TopI (K : PySem.W.Frag) (mg : Str → Option Value) (x : Str) (C : Addr) (qual : Str) (st : Stmt) : Prop :=
  ∃ f fd, FunD K "__init__" qual (defArgs st) (defBody st) (defScope st) [] [] f fd ∧ Mk K C f ∧ mg x = some (.ref C)
section
variable (P : Program) (w : World) (K : PySem.W.Frag) (mg : Str → Option Value) (base : Heap)
/-- the module's name x keeps sp -/
def DefOk (x : Str) (k : Nat) (ps : List Str) (sp : Sp) : Prop :=
  ∃ f fd, FnOk P w K mg base (L2N.CX P w) k f fd ps sp ∧ mg x = some (.ref f) ∧ PySem.W.keepIn K (.ref f) = true ∧ Binds K fd ps []
def MthOk (C : Addr) (m : Str) (k : Nat) (ps : List Str) (sp : Sp) : Prop :=
  ∃ f fd, FnOk P w K mg base (L2N.CX P w) k f fd ps sp ∧ Meth K C m f ∧ Binds K fd ps [] ∧ Cls K C
def MkOk (x : Str) (C : Addr) (k : Nat) (ps : List Str) (sp : Sp) : Prop :=
  ∃ f fd, FnOk P w K mg base (L2N.CX P w) k f fd ps sp ∧ Mk K C f ∧ mg x = some (.ref C) ∧ Binds K fd ps []
end
section
variable {P : Program} {w : World} {K : PySem.W.Frag} {mg : Str → Option Value} {base : Heap} {x qual : Str} {st : Stmt} {N ps : List Str} {k : Nat} {sp : Sp} {C : Addr}
theorem TopD.ok (T : TopD K mg x st) (S : FnScope N ps (defScope st))
    (hb : ∀ (kV doc pm : Value) (an : Option Addr) (cdv ct : Value) (us : List Value), us.length = ps.length → bindArgs (PySem.W.fnOf x x (defArgs st) (defBody st) (defScope st) .none kV doc pm an cdv ct) ⟨us, []⟩ = pure (ps.zip us))
    (len : ∀ vs H Q E, sp vs H Q E → vs.length = ps.length)
    (hbody : ∀ (f : Addr) (cdv : Value) (A : Around) (outer : List Env) (s : Shared) (H : Hp) (vs : List V) (Q : VK) (E : XK), Room k (A.deeper (envOfC x (defScope st) s.heap.objs.size f cdv)) → sp vs H Q E →
      ∃ t, PSs (cxOf (L2N.CX P w) P w K mg base N x (defScope st) f cdv A outer s H E) (defBody st) t ∧ t { nx := fun _ H' => Q .non H', rt := Q } (start N vs) H) : DefOk P w K mg base x (k + 1) ps sp := by
  obtain ⟨f, fd, F, hm⟩ := T
  exact ⟨f, fd, F.ok S len fun cdv A outer s H vs Q E hr h => hbody f cdv A outer s H vs Q E hr h, hm, F.kp, F.bindsN hb⟩
theorem TopM.ok (T : TopM K C x qual st) (c : Cls K C) (S : FnScope N ps (defScope st))
    (hb : ∀ (kV doc pm : Value) (an : Option Addr) (cdv ct : Value) (us : List Value), us.length = ps.length → bindArgs (PySem.W.fnOf x qual (defArgs st) (defBody st) (defScope st) .none kV doc pm an cdv ct) ⟨us, []⟩ = pure (ps.zip us))
    (len : ∀ vs H Q E, sp vs H Q E → vs.length = ps.length)
    (hbody : ∀ (f : Addr) (cdv : Value) (A : Around) (outer : List Env) (s : Shared) (H : Hp) (vs : List V) (Q : VK) (E : XK), Room k (A.deeper (envOfC qual (defScope st) s.heap.objs.size f cdv)) → sp vs H Q E →
      ∃ t, PSs (cxOf (L2N.CX P w) P w K mg base N qual (defScope st) f cdv A outer s H E) (defBody st) t ∧ t { nx := fun _ H' => Q .non H', rt := Q } (start N vs) H) : MthOk P w K mg base C x (k + 1) ps sp := by
  obtain ⟨f, fd, F, hm⟩ := T
  exact ⟨f, fd, F.ok S len fun cdv A outer s H vs Q E hr h => hbody f cdv A outer s H vs Q E hr h, hm, F.bindsN hb, c⟩
theorem TopI.ok (T : TopI K mg x C qual st) (S : FnScope N ps (defScope st))
    (hb : ∀ (kV doc pm : Value) (an : Option Addr) (cdv ct : Value) (us : List Value), us.length = ps.length → bindArgs (PySem.W.fnOf "__init__" qual (defArgs st) (defBody st) (defScope st) .none kV doc pm an cdv ct) ⟨us, []⟩ = pure (ps.zip us))
    (len : ∀ vs H Q E, sp vs H Q E → vs.length = ps.length)
    (hbody : ∀ (f : Addr) (cdv : Value) (A : Around) (outer : List Env) (s : Shared) (H : Hp) (vs : List V) (Q : VK) (E : XK), Room k (A.deeper (envOfC qual (defScope st) s.heap.objs.size f cdv)) → sp vs H Q E →
      ∃ t, PSs (cxOf (L2N.CX P w) P w K mg base N qual (defScope st) f cdv A outer s H E) (defBody st) t ∧ t { nx := fun _ H' => Q .non H', rt := Q } (start N vs) H) : MkOk P w K mg base x C (k + 1) ps sp := by
  obtain ⟨f, fd, F, hm, hx⟩ := T
  exact ⟨f, fd, F.ok S len fun cdv A outer s H vs Q E hr h => hbody f cdv A outer s H vs Q E hr h, hm, hx, F.bindsN hb⟩
end
section
variable {X : Cx} {x m : Str} {k : Nat} {ps : List Str} {sp : Sp} {C : Addr} {E : XK} {p pos apos : Pos} {e o : Expr} {es : List Expr} {ta : TE} {t : TA}
theorem pe_df (D : DefOk X.prog X.w X.K X.mg X.base x k ps sp) (hr : Room k X.A) (hx : Passes (L2N.CX X.prog X.w) X E) (ha : PA X (e :: es) t) (hg : Gl X x := by rfl) (hdb : (x == ("__debug__" : Str)) = false := by decide)
    (hs : starEach (e :: es) X.env = (false, eval e X.env) :: starEach es X.env := by rfl) (hp : (backTo pos (starEach es X.env)).any (·.1) = false := by rfl) : PE X (.Call (.Name x p) (e :: es) [] pos) (tCall sp [] E t) := by
  obtain ⟨f, fd, F, hm, hk, hb⟩ := D
  exact pe_call F hr hg hm hk hb .nil hx ha hdb hs hp
theorem pe_mk (D : MkOk X.prog X.w X.K X.mg X.base x C k ps sp) (hr : Room (k + 1) X.A) (hx : Passes (L2N.CX X.prog X.w) X E) (ha : PA X (e :: es) t) (hg : Gl X x := by rfl) (hdb : (x == ("__debug__" : Str)) = false := by decide)
    (hs : starEach (e :: es) X.env = (false, eval e X.env) :: starEach es X.env := by rfl) (hp : (backTo pos (starEach es X.env)).any (·.1) = false := by rfl) : PE X (.Call (.Name x p) (e :: es) [] pos) (tMake C sp [] E t) := by
  obtain ⟨f, fd, F, hm, hk, hb⟩ := D
  exact pe_make hm F hr hg hk hb .nil hx ha hdb hs hp
end
end SH
namespace SH
open PySem PySem.Spec L2

/-! #### heaps -/
/-- what was tracked is as it was, but for the places S; tuples and what is frozen stay -/
structure Off (S : List Addr) (H H' : Hp) : Prop where
  keep : ∀ a o, a ∉ S → H a = some o → H' a = some o
  tups : ∀ a xs, H a = some (.tup xs) → H' a = some (.tup xs)
  frzs : ∀ a o u, H a = some (.frz o u) → H' a = some (.frz o u)
  live : ∀ a o, H a = some o → ∃ o', H' a = some o'
section
variable {S S' : List Addr} {H H1 H2 H' : Hp} {a b p : Addr} {o u : HO} {K : PySem.W.Frag} {xs : List V}
theorem Off.refl (S : List Addr) (H : Hp) : Off S H H := ⟨fun _ _ _ h => h, fun _ _ h => h, fun _ _ _ h => h, fun _ o h => ⟨o, h⟩⟩
theorem Off.trans (x : Off S H H1) (y : Off S H1 H2) : Off S H H2 :=
  ⟨fun a o n h => y.keep a o n (x.keep a o n h), fun a xs h => y.tups a xs (x.tups a xs h), fun a o u h => y.frzs a o u (x.frzs a o u h), fun a o h => by
    obtain ⟨o', h'⟩ := x.live a o h
    exact y.live a o' h'⟩
theorem Off.mono (x : Off S H H1) (h : ∀ a ∈ S, a ∈ S') : Off S' H H1 := ⟨fun a o n => x.keep a o fun z => n (h a z), x.tups, x.frzs, x.live⟩
theorem Off.new (h : H p = none) : Off S H (upd H p o) :=
  ⟨fun a u _ e => by rw [upd_ne (ne_of_none e h)]; exact e, fun a u e => by rw [upd_ne (ne_of_none e h)]; exact e, fun a u v e => by rw [upd_ne (ne_of_none e h)]; exact e, fun a u e => ⟨u, by rw [upd_ne (ne_of_none e h)]; exact e⟩⟩
theorem Off.put (hm : p ∈ S) (h : H p = some u) (hu : Mut (some u)) : Off S H (upd H p o) := by
  have nt : ∀ {b v}, H b = some v → ¬ Mut (some v) → b ≠ p := fun {b v} e n z => by
    rw [z, h] at e
    cases e
    exact n hu
  exact ⟨fun a u n e => by rw [upd_ne (fun z : a = p => n (by rw [z]; exact hm))]; exact e, fun a u e => by rw [upd_ne (nt e fun z => z)]; exact e, fun a u v e => by rw [upd_ne (nt e fun z => z)]; exact e,
    fun a v e => by
      by_cases q : a = p
      · exact ⟨o, by rw [q, upd_same]⟩
      · exact ⟨v, by rw [upd_ne q]; exact e⟩⟩
theorem Off.at (x : Off S H H') (n : a ∉ S) (h : H a = some o) : H' a = some o := x.keep a o n h
theorem Off.seqL (x : Off S H H') (n : a ∉ S) (h : SqL K H a xs) : SqL K H' a xs := by
  rcases h with (h | ⟨o, h⟩) | h
  · exact .inl (.inl (x.keep _ _ n h))
  · exact .inl (.inr ⟨o, x.frzs _ _ _ h⟩)
  · exact .inr h
theorem Off.seqT (x : Off S H H') (h : SqT K H a xs) : SqT K H' a xs := by
  rcases h with (h | ⟨o, h⟩) | h
  · exact .inl (.inl (x.tups _ _ h))
  · exact .inl (.inr ⟨o, x.frzs _ _ _ h⟩)
  · exact .inr h
theorem Off.back (x : Off S H H') (h : H' p = none) : H p = none := by
  cases q : H p with
  | none => rfl
  | some o =>
    obtain ⟨o', z⟩ := x.live p o q
    rw [h] at z
    cases z
theorem upd_back (h : upd H p o b = none) : H b = none ∧ b ≠ p := by
  by_cases q : b = p
  · rw [q, upd_same] at h; cases h
  · exact ⟨by rw [upd_ne q] at h; exact h, q⟩
theorem upd_new {b : Addr} (h : H b = some u) (hp : H p = none) : upd H p o b = some u := by rw [upd_ne (ne_of_none h hp)]; exact h
theorem nin_nil : a ∉ ([] : List Addr) := by simp
theorem nin_cons {l : List Addr} (h : a ≠ b) (t : a ∉ l) : a ∉ b :: l := by simp [h, t]
theorem in_head {l : List Addr} : a ∈ a :: l := List.mem_cons_self
theorem in_tail {l : List Addr} (h : a ∈ l) : a ∈ b :: l := List.mem_cons_of_mem _ h
end

/-! #### steps of readings -/
def isB (x : V) (H : Hp) (Q : Bool → Hp → Prop) : Prop := ∃ k, x = .bl k ∧ Q k H
def br (b : Bool) (A B : Prop) : Prop := if b = true then A else B
def mkT (xs : List V) (H : Hp) (Q : VK) : Prop := xs.length ≤ sizeLine ∧ ∀ p, H p = none → Q (.ref p) (upd H p (.tup xs))
def mkL (xs : List V) (H : Hp) (Q : VK) : Prop := xs.length ≤ sizeLine ∧ ∀ p, H p = none → Q (.ref p) (upd H p (.lst xs))
def fldR (K : PySem.W.Frag) (f : Str) (x : V) (H : Hp) (Q : VK) : Prop := ∃ a C dx fs v, x = .ref a ∧ H a = some (.ins C dx fs) ∧ Cls K C ∧ NoAttr K C f ∧ fs.lookup f = some v ∧ Q v H
def insR (C : Addr) (m : Str) (x : V) (H : Hp) (A : Prop) : Prop := ∃ a dx fs, x = .ref a ∧ H a = some (.ins C dx fs) ∧ fs.lookup m = none ∧ A
def stR (K : PySem.W.Frag) (f : Str) (y x : V) (H : Hp) (N : Hp → Prop) : Prop := ∃ a C dx fs, x = .ref a ∧ H a = some (.ins C dx fs) ∧ Cls K C ∧ NoAttr K C f ∧ fs.length < 1000 ∧ N (upd H a (.ins C dx (putF f y fs)))
section
variable {K : PySem.W.Frag} {σ : L2.St} {H : Hp} {Q : VK} {x y v : V} {i j : Int} {n r : Nat} {ta tb tc te to tv : TE} {t u : TT} {tA tr : TA} {A B : Prop} {p a C dx : Addr} {b : Bool} {fs : List (Str × V)} {f m : Str} {xs vs : List V}
  {N : L2.St → Hp → Prop} {R : VK} {Bk Ct : L2.St → Hp → Prop} {s1 s2 : TS} {gt : TG} {QB : Bool → Hp → Prop} {QA : List V → Hp → Prop} {sp : Sp} {E : XK}
theorem g_var {k : Nat} (h : σ[k]? = some (some v)) (q : Q v H) : tVar k σ H Q := ⟨v, h, q⟩
theorem g_c (q : Q v H) : tC v σ H Q := q
theorem g_op {r : R2} (q : ta σ H fun x H1 => tb σ H1 fun y H2 => r x y H2 Q) : tOp r ta tb σ H Q := q
theorem g_un {r : V → Hp → VK → Prop} (q : ta σ H fun x H1 => r x H1 Q) : tUn r ta σ H Q := q
theorem g_I0 {g : Int → Int → V} (q : Q (g i j) H) : rI0 g (.int i) (.int j) H Q := ⟨i, j, rfl, rfl, q⟩
theorem g_I {D : Int → Int → Prop} {g : Int → Int → V} (hc : D i j) (q : Q (g i j) H) : rI D g (.int i) (.int j) H Q := ⟨i, j, rfl, rfl, hc, q⟩
theorem g_U {g : Int → V} (q : Q (g i) H) : rU g (.int i) H Q := ⟨i, rfl, q⟩
theorem g_eqI (q : Q (.bl (decide (i = j))) H) : rEq (.int i) (.int j) H Q := ⟨rfl, by
  have e : decide (V.int i = V.int j) = decide (i = j) := decide_eq_decide.mpr ⟨fun h => by cases h; rfl, fun h => by rw [h]⟩
  rw [e]; exact q⟩
theorem g_neI (q : Q (.bl (!decide (i = j))) H) : rNe (.int i) (.int j) H Q := ⟨rfl, by
  have e : decide (V.int i = V.int j) = decide (i = j) := decide_eq_decide.mpr ⟨fun h => by cases h; rfl, fun h => by rw [h]⟩
  rw [e]; exact q⟩
theorem g_eqS {s z : Str} (q : Q (.bl (decide (s = z))) H) : rEq (.str s) (.str z) H Q := ⟨rfl, by
  have e : decide (V.str s = V.str z) = decide (s = z) := decide_eq_decide.mpr ⟨fun h => by cases h; rfl, fun h => by rw [h]⟩
  rw [e]; exact q⟩
theorem g_neS {s z : Str} (q : Q (.bl (!decide (s = z))) H) : rNe (.str s) (.str z) H Q := ⟨rfl, by
  have e : decide (V.str s = V.str z) = decide (s = z) := decide_eq_decide.mpr ⟨fun h => by cases h; rfl, fun h => by rw [h]⟩
  rw [e]; exact q⟩
theorem g_test (q : te σ H fun x H' => isB x H' QB) : tTest te σ H QB := q
theorem g_B (q : te σ H fun x H' => isB x H' QB) : tB te σ H QB := q
theorem g_isB (q : QB b H) : isB (.bl b) H QB := ⟨b, rfl, q⟩
theorem g_and (q : t σ H fun c H1 => br c (u σ H1 QB) (QB false H1)) : tAnd t u σ H QB := q
theorem g_or (q : t σ H fun c H1 => br c (QB true H1) (u σ H1 QB)) : tOr t u σ H QB := q
theorem g_not (q : t σ H fun c H1 => QB (!c) H1) : tNot t σ H QB := q
theorem g_andV (q : ta σ H fun x H1 => isB x H1 fun c H1 => br c (tb σ H1 Q) (Q (.bl false) H1)) : tAndV ta tb σ H Q := q
theorem g_orV (q : ta σ H fun x H1 => isB x H1 fun c H1 => br c (Q (.bl true) H1) (tb σ H1 Q)) : tOrV ta tb σ H Q := q
theorem g_notV (q : ta σ H fun x H1 => isB x H1 fun c H1 => Q (.bl (!c)) H1) : tNotV ta σ H Q := q
theorem g_ifE (q : t σ H fun c H1 => br c (ta σ H1 Q) (tb σ H1 Q)) : tIf t ta tb σ H Q := q
theorem g_chain {r r' : R2} (q : ta σ H fun x H1 => tb σ H1 fun y H2 => r x y H2 fun z H3 => isB z H3 fun k H3 => br k (tc σ H3 fun w H4 => r' y w H4 Q) (Q (.bl false) H3)) : tChain r r' ta tb tc σ H Q := q
theorem g_nil (q : QA [] H) : tNil σ H QA := q
theorem g_cons (q : ta σ H fun x H1 => tr σ H1 fun xs H2 => QA (x :: xs) H2) : tCons ta tr σ H QA := q
theorem g_tup (q : tA σ H fun xs H1 => mkT xs H1 Q) : tTup tA σ H Q := q
theorem g_lst (q : tA σ H fun xs H1 => mkL xs H1 Q) : tLst tA σ H Q := q
theorem g_mkT (h : xs.length ≤ sizeLine) (q : ∀ p, H p = none → Q (.ref p) (upd H p (.tup xs))) : mkT xs H Q := ⟨h, q⟩
theorem g_mkL (h : xs.length ≤ sizeLine) (q : ∀ p, H p = none → Q (.ref p) (upd H p (.lst xs))) : mkL xs H Q := ⟨h, q⟩
theorem g_call (q : tA σ H fun vs H1 => sp vs H1 Q E) : tCall sp [] E tA σ H Q := by
  show tA σ H fun vs H1 => sp (vs ++ []) H1 Q E
  simp only [List.append_nil]
  exact q
theorem g_fld (q : ta σ H fun x H1 => fldR K f x H1 Q) : tFld K ta f σ H Q := q
theorem g_fldR (h : H a = some (.ins C dx fs)) (c : Cls K C) (na : NoAttr K C f) (hl : fs.lookup f = some v) (q : Q v H) : fldR K f (.ref a) H Q := ⟨a, C, dx, fs, v, rfl, h, c, na, hl, q⟩
theorem g_meth (q : ta σ H fun x H1 => insR C m x H1 (tA σ H1 fun vs H2 => sp (x :: vs) H2 Q E)) : tMeth C m sp [] E ta tA σ H Q := by
  show ta σ H fun x H1 => ∃ a dx fs, x = .ref a ∧ H1 a = some (.ins C dx fs) ∧ fs.lookup m = none ∧ tA σ H1 fun vs H2 => sp (x :: (vs ++ [])) H2 Q E
  simp only [List.append_nil]
  exact q
theorem g_insR (h : H a = some (.ins C dx fs)) (hl : fs.lookup m = none) (q : A) : insR C m (.ref a) H A := ⟨a, dx, fs, rfl, h, hl, q⟩
theorem g_make (q : tA σ H fun vs H1 => ∀ x dx, H1 x = none → H1 dx = none → dx ≠ x → sp (.ref x :: vs) (upd (upd H1 dx (.own x)) x (.ins C dx [])) (fun v H2 => v = .non ∧ Q (.ref x) H2) E) : tMake C sp [] E tA σ H Q := by
  show tA σ H fun vs H1 => ∀ x dx, H1 x = none → H1 dx = none → dx ≠ x → sp (.ref x :: (vs ++ [])) (upd (upd H1 dx (.own x)) x (.ins C dx [])) (fun v H2 => v = .non ∧ Q (.ref x) H2) E
  simp only [List.append_nil]
  exact q
theorem g_cb {r : List V → Hp → VK → Prop} (q : tA σ H fun vs H1 => r vs H1 Q) : tCB r tA σ H Q := q
theorem g_bm {T : String} {r : V → List V → Hp → VK → Prop} (q : to σ H fun x H1 => tyV K T x H1 ∧ tA σ H1 fun xs H2 => r x xs H2 Q) : tBM K T r to tA σ H Q := q
theorem sz (h : Nat.ble xs.length 1000 = true) : xs.length ≤ sizeLine := Nat.le_trans (Nat.le_of_ble_eq_true h) (by decide)
theorem szl (h : Nat.ble xs.length 1000 = true) : xs.length < sizeLine := Nat.lt_of_le_of_lt (Nat.le_of_ble_eq_true h) (by decide)
/-! statements -/
theorem g_seq (q : s1 ⟨s2 ⟨N, R, Bk, Ct⟩, R, Bk, Ct⟩ σ H) : tSeq s1 s2 ⟨N, R, Bk, Ct⟩ σ H := q
theorem g_asg (q : te σ H fun x H1 => gt x σ H1 N) : tAsg te gt ⟨N, R, Bk, Ct⟩ σ H := q
theorem g_name {k : Nat} (q : N (σ.set k (some v)) H) : gName k v σ H N := q
theorem g_drop (q : te σ H fun _ H1 => N σ H1) : tDrop te ⟨N, R, Bk, Ct⟩ σ H := q
theorem g_ret (q : te σ H R) : tRet te ⟨N, R, Bk, Ct⟩ σ H := q
theorem g_retN (q : R .non H) : tRetN ⟨N, R, Bk, Ct⟩ σ H := q
theorem g_next (q : N σ H) : tNext ⟨N, R, Bk, Ct⟩ σ H := q
theorem g_brk (q : Bk σ H) : tBreak ⟨N, R, Bk, Ct⟩ σ H := q
theorem g_cnt (q : Ct σ H) : tCont ⟨N, R, Bk, Ct⟩ σ H := q
theorem g_ifs (q : t σ H fun b H1 => br b (s1 ⟨N, R, Bk, Ct⟩ σ H1) (s2 ⟨N, R, Bk, Ct⟩ σ H1)) : tIfS t s1 s2 ⟨N, R, Bk, Ct⟩ σ H := q
theorem g_par {k l : Nat} (q : tA σ H fun vs H1 => ∃ v w, vs = [v, w] ∧ N ((σ.set k (some v)).set l (some w)) H1) : tPar k l tA ⟨N, R, Bk, Ct⟩ σ H := q
theorem g_par2 {k l : Nat} {w : V} (q : N ((σ.set k (some v)).set l (some w)) H) : ∃ v' w', [v, w] = [v', w'] ∧ N ((σ.set k (some v')).set l (some w')) H := ⟨v, w, rfl, q⟩
theorem g_fldS (q : tv σ H fun y H1 => ta σ H1 fun x H2 => stR K f y x H2 (N σ)) : sFld K ta tv f ⟨N, R, Bk, Ct⟩ σ H := q
theorem g_stR {M : Hp → Prop} (h : H a = some (.ins C dx fs)) (c : Cls K C) (na : NoAttr K C f) (hl : fs.length < 1000) (q : M (upd H a (.ins C dx (putF f y fs)))) : stR K f y (.ref a) H M := ⟨a, C, dx, fs, rfl, h, c, na, hl, q⟩
/-! ways -/
theorem br_t (q : A) : br true A B := q
theorem br_f (q : B) : br false A B := (by show (if false = true then A else B); rw [if_neg Bool.false_ne_true]; exact q)
theorem br_d {c : Prop} [Decidable c] (h1 : c → A) (h2 : ¬ c → B) : br (decide c) A B := by
  unfold br
  by_cases h : c
  · rw [if_pos (decide_eq_true h)]; exact h1 h
  · rw [if_neg (by rw [decide_eq_false h]; exact Bool.false_ne_true)]; exact h2 h
theorem br_nd {c : Prop} [Decidable c] (h1 : ¬ c → A) (h2 : c → B) : br (!decide c) A B := by
  unfold br
  by_cases h : c
  · rw [if_neg (by rw [decide_eq_true h]; exact Bool.false_ne_true)]; exact h2 h
  · rw [if_pos (by rw [decide_eq_false h]; rfl)]; exact h1 h
theorem br_b {c : Bool} (h1 : c = true → A) (h2 : c = false → B) : br c A B := by
  cases c with
  | true => exact h1 rfl
  | false => exact br_f (h2 rfl)
theorem br_nb {c : Bool} (h1 : c = false → A) (h2 : c = true → B) : br (!c) A B := by
  cases c with
  | true => exact br_f (h2 rfl)
  | false => exact h1 rfl
theorem br_T {c : Prop} [Decidable c] (h : c) (q : A) : br (decide c) A B := br_d (fun _ => q) fun z => absurd h z
theorem br_F {c : Prop} [Decidable c] (h : ¬ c) (q : B) : br (decide c) A B := br_d (fun z => absurd z h) fun _ => q
theorem br_NT {c : Prop} [Decidable c] (h : c) (q : B) : br (!decide c) A B := br_nd (fun z => absurd h z) fun _ => q
theorem br_NF {c : Prop} [Decidable c] (h : ¬ c) (q : A) : br (!decide c) A B := br_nd (fun _ => q) fun z => absurd z h
/-! items -/
theorem g_ixT (h : SqT K H p xs) (ha : atI xs i = some v) (q : Q v H) : rIxT K (.ref p) (.int i) H Q := ⟨p, xs, i, v, rfl, rfl, h, ha, q⟩
theorem g_ixL (h : SqL K H p xs) (ha : atI xs i = some v) (q : Q v H) : rIxL K (.ref p) (.int i) H Q := ⟨p, xs, i, v, rfl, rfl, h, ha, q⟩
end
/-! #### builtins by names of their readings -/
def rInt : List V → Hp → VK → Prop := fun xs H Q => (∃ i, xs = [.int i] ∧ Q (.int i) H) ∨ ∃ k, xs = [.bl k] ∧ Q (.int (if k then 1 else 0)) H
def rAbs : List V → Hp → VK → Prop := fun xs H Q => ∃ i, xs = [.int i] ∧ Q (.int (if i < 0 then -i else i)) H
def rMax2 : List V → Hp → VK → Prop := fun xs H Q => ∃ i j, xs = [.int i, .int j] ∧ Q (.int (if j > i then j else i)) H
def rMin2 : List V → Hp → VK → Prop := fun xs H Q => ∃ i j, xs = [.int i, .int j] ∧ Q (.int (if j < i then j else i)) H
def rLen (K : PySem.W.Frag) : List V → Hp → VK → Prop := fun xs H Q => ∃ p ys, xs = [.ref p] ∧ (SqL K H p ys ∨ SqT K H p ys) ∧ Q (.int ys.length) H
def rTup (K : PySem.W.Frag) : List V → Hp → VK → Prop := fun xs H Q => ∃ p ys, xs = [.ref p] ∧ ((SqL K H p ys ∧ ∀ l, H l = none → Q (.ref l) (upd H l (.tup ys))) ∨ (SqT K H p ys ∧ Q (.ref p) H))
def rLst (K : PySem.W.Frag) : List V → Hp → VK → Prop := fun xs H Q => ∃ p ys, xs = [.ref p] ∧ (SqL K H p ys ∨ SqT K H p ys) ∧ ∀ l, H l = none → Q (.ref l) (upd H l (.lst ys))
section
variable {X : Cx}
theorem c_int : CallR X (.type "int") rInt := call_int1
theorem c_abs : CallR X (.builtin "abs") rAbs := call_abs
theorem c_max2 (hc : X.calm = true) : CallR X (.builtin "max") rMax2 := call_max2 hc
theorem c_min2 (hc : X.calm = true) : CallR X (.builtin "min") rMin2 := call_min2 hc
theorem c_len : CallR X (.builtin "len") (rLen X.K) := call_len_seq
theorem c_tup : CallR X (.type "tuple") (rTup X.K) := call_tuple_of
theorem c_lst : CallR X (.type "list") (rLst X.K) := call_list_of
end
section
variable {K : PySem.W.Frag} {H : Hp} {Q : VK} {i j : Int} {p : Addr} {xs : List V}
theorem g_int (q : Q (.int i) H) : rInt [.int i] H Q := .inl ⟨i, rfl, q⟩
theorem g_abs (q : Q (.int (if i < 0 then -i else i)) H) : rAbs [.int i] H Q := ⟨i, rfl, q⟩
theorem g_max2 (q : Q (.int (if j > i then j else i)) H) : rMax2 [.int i, .int j] H Q := ⟨i, j, rfl, q⟩
theorem g_min2 (q : Q (.int (if j < i then j else i)) H) : rMin2 [.int i, .int j] H Q := ⟨i, j, rfl, q⟩
theorem g_lenL (h : SqL K H p xs) (q : Q (.int xs.length) H) : rLen K [.ref p] H Q := ⟨p, xs, rfl, .inl h, q⟩
theorem g_lenT (h : SqT K H p xs) (q : Q (.int xs.length) H) : rLen K [.ref p] H Q := ⟨p, xs, rfl, .inr h, q⟩
theorem g_tupL (h : SqL K H p xs) (q : ∀ l, H l = none → Q (.ref l) (upd H l (.tup xs))) : rTup K [.ref p] H Q := ⟨p, xs, rfl, .inl ⟨h, q⟩⟩
theorem g_lstL (h : SqL K H p xs) (q : ∀ l, H l = none → Q (.ref l) (upd H l (.lst xs))) : rLst K [.ref p] H Q := ⟨p, xs, rfl, .inl h, q⟩
theorem g_lstT (h : SqT K H p xs) (q : ∀ l, H l = none → Q (.ref l) (upd H l (.lst xs))) : rLst K [.ref p] H Q := ⟨p, xs, rfl, .inr h, q⟩
end
end SH
namespace SH
open PySem PySem.Spec L2

/-! #### kinds of values -/
inductive Kd where | non | bl | int | str | lst | tup | dct
  deriving DecidableEq
def Kd.nm : Kd → String
  | .non => "NoneType"
  | .bl => "bool"
  | .int => "int"
  | .str => "str"
  | .lst => "list"
  | .tup => "tuple"
  | .dct => "dict"
inductive KdV (K : PySem.W.Frag) (H : Hp) : V → Kd → Prop where
  | non : KdV K H .non .non
  | bl (b : Bool) : KdV K H (.bl b) .bl
  | int (i : Int) : KdV K H (.int i) .int
  | str (z : Str) : KdV K H (.str z) .str
  | lst {a : Addr} {xs : List V} (h : SqL K H a xs) : KdV K H (.ref a) .lst
  | tup {a : Addr} {xs : List V} (h : SqT K H a xs) : KdV K H (.ref a) .tup
  | dct {a : Addr} {kvs : List (Key × V)} (h : H a = some (.dK kvs)) : KdV K H (.ref a) .dct
theorem KdV.ty {K : PySem.W.Frag} {H : Hp} {x : V} {k : Kd} (h : KdV K H x k) : TyX K H x (.type k.nm) := by
  cases h with
  | non => exact .base .non
  | bl b => exact .base (.bl b)
  | int i => exact .base (.int i)
  | str z => exact .base (.str z)
  | lst h =>
    rcases h with (h | ⟨o, h⟩) | ⟨o, its, n, e, c, _⟩
    · exact .base (.lst h)
    · exact .base (.frz h)
    · exact .kList e c
  | tup h =>
    rcases h with (h | ⟨o, h⟩) | ⟨o, its, n, e, c, _⟩
    · exact .base (.tup h)
    · exact .fTuple h
    · exact .kTuple e c
  | dct h => exact .base (.dK h)
def Kd.isa (k : Kd) (T : String) : Bool := (kitB k.nm T).getD false
theorem isa_int (k : Kd) : kitB k.nm "int" = some (k == .int || k == .bl) := by cases k <;> decide +kernel
theorem isa_bool (k : Kd) : kitB k.nm "bool" = some (k == .bl) := by cases k <;> decide +kernel
theorem isa_str (k : Kd) : kitB k.nm "str" = some (k == .str) := by cases k <;> decide +kernel
theorem isa_tuple (k : Kd) : kitB k.nm "tuple" = some (k == .tup) := by cases k <;> decide +kernel
section
variable {K : PySem.W.Frag} {H : Hp} {Q : VK} {x : V} {k : Kd}
theorem g_isi {T : String} {b : Bool} (h : KdV K H x k) (e : kitB k.nm T = some b) (q : Q (.bl b) H) : rIsi K [x, .ty T] H Q := ⟨x, .ty T, _, _, b, rfl, .ty T, h.ty, kit_ty e, q⟩
theorem g_isiInt (h : KdV K H x k) (q : Q (.bl (k == .int || k == .bl)) H) : rIsi K [x, .ty "int"] H Q := g_isi h (isa_int k) q
theorem g_isiBool (h : KdV K H x k) (q : Q (.bl (k == .bl)) H) : rIsi K [x, .ty "bool"] H Q := g_isi h (isa_bool k) q
theorem g_isiStr (h : KdV K H x k) (q : Q (.bl (k == .str)) H) : rIsi K [x, .ty "str"] H Q := g_isi h (isa_str k) q
theorem g_isiTup (h : KdV K H x k) (q : Q (.bl (k == .tup)) H) : rIsi K [x, .ty "tuple"] H Q := g_isi h (isa_tuple k) q
end
/-- what isinstance asks of an own class -/
structure IsOwn (K : PySem.W.Frag) (C : Addr) : Prop where
  ha : PySem.W.findIn K (.ref C) "__class__" = some (some (.builtin "object.__class__"))
  hn : PySem.W.specialIn K (.builtin "object.__class__") "__get__" = some (some (.builtin "getset_descriptor.__get__"))
  ht : PySem.W.takesIn K (.builtin "object.__class__") = some true
  hm : PySem.W.mroIn K C (.type "object") = some true
def isOwnB (K : PySem.W.Frag) (C : Addr) : Bool := decide (PySem.W.findIn K (.ref C) "__class__" = some (some (.builtin "object.__class__"))) && (decide (PySem.W.specialIn K (.builtin "object.__class__") "__get__" = some (some (.builtin "getset_descriptor.__get__"))) && (decide (PySem.W.takesIn K (.builtin "object.__class__") = some true) && decide (PySem.W.mroIn K C (.type "object") = some true)))
theorem isOwnB_ok {K : PySem.W.Frag} {C : Addr} (h : isOwnB K C = true) : IsOwn K C := by
  unfold isOwnB at h
  simp only [Bool.and_eq_true, decide_eq_true_eq] at h
  exact ⟨h.1, h.2.1, h.2.2.1, h.2.2.2⟩
/-! #### constants of the module, built-ins -/
def Ci (mg : Str → Option Value) (x : Str) (i : Int) : Prop := ∃ t, mg x = some (.int i t)
theorem pe_cint {X : Cx} {x : Str} {i : Int} {pos : Pos} (h : Ci X.mg x i) (hg : Gl X x := by rfl) (hd : (x == ("__debug__" : Str)) = false := by decide) : PE X (.Name x pos) (tC (.int i)) := by
  obtain ⟨t, h⟩ := h
  exact pe_glob hg h ⟨t, rfl⟩ hd
structure Blt (mg : Str → Option Value) : Prop where
  b_len : mg "len" = none
  b_range : mg "range" = none
  b_isinstance : mg "isinstance" = none
  b_abs : mg "abs" = none
  b_int : mg "int" = none
  b_bool : mg "bool" = none
  b_str : mg "str" = none
  b_tuple : mg "tuple" = none
  b_dict : mg "dict" = none
  b_list : mg "list" = none
  b_min : mg "min" = none
  b_max : mg "max" = none
  b_any : mg "any" = none
  b_all : mg "all" = none
  b_sum : mg "sum" = none
  b_sorted : mg "sorted" = none
  b_repr : mg "repr" = none
  b_zip : mg "zip" = none
  b_enumerate : mg "enumerate" = none
end SH
namespace SH
open PySem PySem.Spec L2
/-! #### stores, slices, dicts, loops: their steps -/
section
variable {K : PySem.W.Frag} {σ : L2.St} {H : Hp} {Q : VK} {x y v : V} {i j : Int} {ta tb tc te to tv td ty : TE} {tt u : TT} {tA tr : TA} {p a C dx : Addr} {xs ys vs : List V}
  {N : L2.St → Hp → Prop} {R : VK} {Bk Ct : L2.St → Hp → Prop} {s1 s2 : TS} {gt : TG}
theorem g_sub {M : L2.St → Hp → Prop} {t : TSet} (q : to σ H fun o H1 => ta σ H1 fun i H2 => t o i v H2 fun H3 => M σ H3) : gSub to ta t v σ H M := q
theorem g_setL {M : Hp → Prop} {k : Nat} (h : H p = some (.lst xs)) (e : ixN xs.length i = some k) (q : M (upd H p (.lst (xs.set k v)))) : rSetL (.ref p) (.int i) v H M := ⟨p, xs, i, k, rfl, rfl, h, e, q⟩
theorem g_yes {QB : Bool → Hp → Prop} (q : QB true H) : tYes σ H QB := q
/-- slices -/
def sliR (r : V → Option Int → Option Int → Hp → VK → Prop) (x : V) (l u : Option Int) (H : Hp) (Q : VK) : Prop := r x l u H Q
theorem g_sl {r : V → Option Int → Option Int → Hp → VK → Prop} {tl th : TO} (q : te σ H fun x H1 => tl σ H1 fun l H2 => th σ H2 fun u H3 => r x l u H3 Q) : tSl r te tl th σ H Q := q
theorem g_noPart {QO : Option Int → Hp → Prop} (q : QO none H) : tNoPart σ H QO := q
def intO (x : V) (H : Hp) (QO : Option Int → Hp → Prop) : Prop := ∃ i, x = .int i ∧ QO (some i) H
theorem g_part {QO : Option Int → Hp → Prop} (q : te σ H fun x H1 => intO x H1 QO) : tPart te σ H QO := q
theorem g_intO {QO : Option Int → Hp → Prop} (q : QO (some i) H) : intO (.int i) H QO := ⟨i, rfl, q⟩
theorem g_slL {lo hi : Option Int} (h : SqL K H a xs) (q : ∀ p, H p = none → Q (.ref p) (upd H p (.lst (cutV xs lo hi)))) : rSlL K (.ref a) lo hi H Q := ⟨a, xs, rfl, h, q⟩
theorem g_cat {l b : Addr} {zs : List V} (h1 : H l = some (.lst xs)) (h2 : H b = some (.lst zs)) (hz : xs.length + zs.length ≤ sizeLine) (q : ∀ p, H p = none → Q (.ref p) (upd H p (.lst (xs ++ zs)))) : rCat (.ref l) (.ref b) H Q :=
  ⟨l, b, xs, zs, rfl, rfl, h1, h2, hz, q⟩
theorem g_eqD {d e : PyData} (h1 : Dp K H x d) (h2 : Dp K H y e) (s1 : SeqAt.shaped d = true) (s2 : SeqAt.shaped e = true) (q : Q (.bl (PyData.eqv d e)) H) : rEqD K x y H Q := ⟨d, e, h1, h2, s1, s2, q⟩
theorem g_neD {d e : PyData} (h1 : Dp K H x d) (h2 : Dp K H y e) (s1 : SeqAt.shaped d = true) (s2 : SeqAt.shaped e = true) (q : Q (.bl (!PyData.eqv d e)) H) : rNeD K x y H Q := ⟨d, e, h1, h2, s1, s2, q⟩
theorem g_in {neg : Bool} (h : SqL K H p xs ∨ SqT K H p xs) (hx : flatV x = true) (ha : xs.all flatV = true) (q : Q (.bl (if neg then !inV x xs else inV x xs)) H) : rIn K neg x (.ref p) H Q := ⟨p, xs, rfl, h, hx, ha, q⟩
/-- dicts by text keys -/
def dgR (x y : V) (H : Hp) (Q : VK) : Prop := ∃ a v, x = .ref a ∧ DGet H a y (some v) ∧ Q v H
theorem g_dget (q : td σ H fun x H1 => ty σ H1 fun y H2 => dgR x y H2 Q) : tDGet td ty σ H Q := q
theorem g_dgR {kvs : List (Key × V)} {k : Str} (h : H a = some (.dK kvs)) (e : valV kvs (Sum.inr k) = some v) (q : Q v H) : dgR (.ref a) (.str k) H Q := ⟨a, v, rfl, .inl ⟨kvs, Sum.inr k, .inl h, rfl, e.symm⟩, q⟩
def dpR (v x y : V) (H : Hp) (M : Hp → Prop) : Prop := ∃ a H4, x = .ref a ∧ DPut H a y v H4 ∧ M H4
theorem g_dput (q : tv σ H fun v H1 => td σ H1 fun x H2 => ty σ H2 fun y H3 => dpR v x y H3 (N σ)) : sDPut td ty tv ⟨N, R, Bk, Ct⟩ σ H := q
theorem g_dpR {M : Hp → Prop} {kvs : List (Key × V)} {k : Str} (h : H a = some (.dK kvs)) (hl : kvs.length < sizeLine) (q : M (upd H a (.dK (putK kvs (Sum.inr k) v)))) : dpR v (.ref a) (.str k) H M := ⟨a, _, rfl, DPut.k (k := Sum.inr k) h hl, q⟩
theorem g_dnew (q : ∀ p, H p = none → Q (.ref p) (upd H p (.dK []))) : tDNewK σ H Q := q
/-- loops over a range, a list, a tuple -/
def forJ (g : TG) (tb : TS) (D : Ends) (σ : L2.St) (J : It) (H1 : Hp) : Prop := ∃ W : Nat → Nat → L2.St → Hp → Prop, (∃ m, W 0 m σ H1) ∧ ∀ i m σ H, W i m σ H →
  (J.stop i H ∧ D.nx σ H) ∨ (J.go i H ∧ ∃ N : L2.St → Hp → Prop, (∀ σ' H', N σ' H' → ∃ m', m' < m ∧ W (i + 1) m' σ' H') ∧ ∀ x H', J.yld i H x H' → g x σ H' fun σ2 H2 => tb { D with nx := N, ct := N, bk := D.nx } σ2 H2)
def forR (vs : List V) (H : Hp) (g : TG) (tb : TS) (D : Ends) (σ : L2.St) : Prop := ∃ j : Int, vs = [.int j] ∧ -(2 ^ 62) ≤ j ∧ j < 2 ^ 62 ∧ forJ g tb D σ (Itr 0 j.toNat) H
def forL (K : PySem.W.Frag) (x : V) (H : Hp) (g : TG) (tb : TS) (D : Ends) (σ : L2.St) : Prop := ∃ a, x = .ref a ∧ (∃ xs, SqL K H a xs) ∧ forJ g tb D σ (Itl K a) H
def forT (K : PySem.W.Frag) (x : V) (H : Hp) (g : TG) (tb : TS) (D : Ends) (σ : L2.St) : Prop := ∃ a, x = .ref a ∧ (∃ xs, SqT K H a xs) ∧ forJ g tb D σ (Itt K a) H
theorem g_forR (q : tA σ H fun vs H1 => forR vs H1 gt s1 ⟨N, R, Bk, Ct⟩ σ) : tFor (iRng1 tA) gt s1 ⟨N, R, Bk, Ct⟩ σ H := q
theorem g_forL (q : te σ H fun x H1 => forL K x H1 gt s1 ⟨N, R, Bk, Ct⟩ σ) : tFor (iList K te) gt s1 ⟨N, R, Bk, Ct⟩ σ H := q
theorem g_forT (q : te σ H fun x H1 => forT K x H1 gt s1 ⟨N, R, Bk, Ct⟩ σ) : tFor (iTup K te) gt s1 ⟨N, R, Bk, Ct⟩ σ H := q
theorem forR_mk {n : Int} {k : Nat} (Pv : Nat → L2.St → Hp → Prop) (b : -(2 ^ 62) ≤ n ∧ n < 2 ^ 62) (h0 : Pv 0 σ H) (hs : ∀ i σ H, i < n.toNat → Pv i σ H → s1 ⟨Pv (i + 1), R, N, Pv (i + 1)⟩ (σ.set k (some (.int (i : Int)))) H) (hd : ∀ σ H, Pv n.toNat σ H → N σ H) :
    forR [.int n] H (gName k) s1 ⟨N, R, Bk, Ct⟩ σ :=
  ⟨n, rfl, b.1, b.2, for_range (lo := 0) (n := n.toNat) (g := gName k) (D := ⟨N, R, Bk, Ct⟩) Pv h0 (fun i σ H hi p => by
    have e : (0 : Int) + (i : Int) = (i : Int) := Int.zero_add _
    show s1 ⟨Pv (i + 1), R, N, Pv (i + 1)⟩ (σ.set k (some (.int ((0 : Int) + (i : Int))))) H
    rw [e]
    exact hs i σ H hi p) hd⟩
theorem forL_mk (Pv : Nat → L2.St → Hp → Prop) (hx : SqL K H a xs) (h0 : Pv 0 σ H) (hl : ∀ i σ H, i ≤ xs.length → Pv i σ H → SqL K H a xs)
    (hs : ∀ i x σ H, xs[i]? = some x → Pv i σ H → gt x σ H fun σ2 H2 => s1 ⟨Pv (i + 1), R, N, Pv (i + 1)⟩ σ2 H2) (hd : ∀ σ H, Pv xs.length σ H → N σ H) : forL K (.ref a) H gt s1 ⟨N, R, Bk, Ct⟩ σ :=
  ⟨a, rfl, ⟨xs, hx⟩, for_list (K := K) (a := a) (xs := xs) (D := ⟨N, R, Bk, Ct⟩) Pv h0 hl hs hd⟩
theorem forT_mk (Pv : Nat → L2.St → Hp → Prop) (hx : SqT K H a xs) (h0 : Pv 0 σ H) (hl : ∀ i σ H, i ≤ xs.length → Pv i σ H → SqT K H a xs)
    (hs : ∀ i x σ H, xs[i]? = some x → Pv i σ H → gt x σ H fun σ2 H2 => s1 ⟨Pv (i + 1), R, N, Pv (i + 1)⟩ σ2 H2) (hd : ∀ σ H, Pv xs.length σ H → N σ H) : forT K (.ref a) H gt s1 ⟨N, R, Bk, Ct⟩ σ :=
  ⟨a, rfl, ⟨xs, hx⟩, for_tup (K := K) (a := a) (xs := xs) (D := ⟨N, R, Bk, Ct⟩) Pv h0 hl hs hd⟩
theorem g_gtup {M : L2.St → Hp → Prop} {t : TGs} {n : Nat} (h : SqT K H a xs) (hl : xs.length = n) (q : t xs σ H M) : gTup K n t (.ref a) σ H M := ⟨a, xs, rfl, h, hl, q⟩
theorem g_gcons {M : L2.St → Hp → Prop} {t : TG} {u : TGs} (q : t v σ H fun σ' H' => u xs σ' H' M) : gCons t u (v :: xs) σ H M := ⟨v, xs, rfl, q⟩
theorem g_gnil {M : L2.St → Hp → Prop} (q : M σ H) : gNil [] σ H M := ⟨rfl, q⟩
/-- a while, its measure -/
def whN (W : Nat → L2.St → Hp → Prop) (m : Nat) (tb : TS) (D : Ends) (σ : L2.St) (H : Hp) : Prop := ∃ N : L2.St → Hp → Prop, (∀ σ' H', N σ' H' → ∃ m', m' < m ∧ W m' σ' H') ∧ tb { D with nx := N, ct := N, bk := D.nx } σ H
theorem g_while (W : Nat → L2.St → Hp → Prop) (m : Nat) (w0 : W m σ H) (hs : ∀ m σ H, W m σ H → tt σ H fun b H1 => br b (whN W m s1 ⟨N, R, Bk, Ct⟩ σ H1) (N σ H1)) : tWhile tt s1 ⟨N, R, Bk, Ct⟩ σ H := ⟨W, ⟨m, w0⟩, hs⟩
theorem g_whN {W : Nat → L2.St → Hp → Prop} {m : Nat} (q : s1 ⟨fun σ' H' => ∃ m', m' < m ∧ W m' σ' H', R, N, fun σ' H' => ∃ m', m' < m ∧ W m' σ' H'⟩ σ H) : whN W m s1 ⟨N, R, Bk, Ct⟩ σ H := ⟨_, fun _ _ z => z, q⟩
/-! comprehensions -/
/-- one item is put behind the made list -/
def lcApp (D : Addr) (y : V) (H : Hp) (M : Hp → Prop) : Prop := ∃ acc, H D = some (.lst acc) ∧ acc.length < sizeLine ∧ M (upd H D (.lst (acc ++ [y])))
theorem g_app {D : Addr} {acc : List V} {M : Hp → Prop} (h : H D = some (.lst acc)) (hl : acc.length < sizeLine) (q : M (upd H D (.lst (acc ++ [y])))) : lcApp D y H M := ⟨acc, h, hl, q⟩
def lcJ (g : TG) (tt : TT) (te : TE) (vs : List Nat) (σ : L2.St) (Q : VK) (J : It) (H1 : Hp) : Prop := ∀ D, H1 D = none → ∃ W : Nat → Nat → Hp → Prop, (∃ m, W 0 m (upd H1 D (.lst []))) ∧ ∀ i m H, W i m H →
  (J.stop i H ∧ Q (.ref D) H) ∨ (J.go i H ∧ ∃ Nx : Hp → Prop, (∀ H', Nx H' → ∃ m', m' < m ∧ W (i + 1) m' H') ∧ ∀ x H', J.yld i H x H' → g x (wipe σ vs) H' fun σ2 H2 => wipe σ2 vs = wipe σ vs ∧ tt σ2 H2 fun b H3 =>
    if b = true then te σ2 H3 fun y H4 => ∃ acc, H4 D = some (.lst acc) ∧ acc.length < sizeLine ∧ Nx (upd H4 D (.lst (acc ++ [y]))) else Nx H3)
def lcR (vs : List V) (H : Hp) (g : TG) (tt : TT) (te : TE) (ws : List Nat) (σ : L2.St) (Q : VK) : Prop := ∃ j : Int, vs = [.int j] ∧ -(2 ^ 62) ≤ j ∧ j < 2 ^ 62 ∧ lcJ g tt te ws σ Q (Itr 0 j.toNat) H
def lcL (K : PySem.W.Frag) (x : V) (H : Hp) (g : TG) (tt : TT) (te : TE) (ws : List Nat) (σ : L2.St) (Q : VK) : Prop := ∃ a, x = .ref a ∧ (∃ xs, SqL K H a xs) ∧ lcJ g tt te ws σ Q (Itl K a) H
def lcT (K : PySem.W.Frag) (x : V) (H : Hp) (g : TG) (tt : TT) (te : TE) (ws : List Nat) (σ : L2.St) (Q : VK) : Prop := ∃ a, x = .ref a ∧ (∃ xs, SqT K H a xs) ∧ lcJ g tt te ws σ Q (Itt K a) H
theorem g_lcR {ws : List Nat} (q : tA σ H fun vs H1 => lcR vs H1 gt tt te ws σ Q) : tLc (iRng1 tA) gt tt te ws σ H Q := q
theorem g_lcL {ws : List Nat} (q : to σ H fun x H1 => lcL K x H1 gt tt te ws σ Q) : tLc (iList K to) gt tt te ws σ H Q := q
theorem g_lcT {ws : List Nat} (q : to σ H fun x H1 => lcT K x H1 gt tt te ws σ Q) : tLc (iTup K to) gt tt te ws σ H Q := q
theorem lcR_mk {n : Int} {k : Nat} {ws : List Nat} (b : -(2 ^ 62) ≤ n ∧ n < 2 ^ 62) (Pv : Addr → Nat → Hp → Prop) (h0 : ∀ D, H D = none → Pv D 0 (upd H D (.lst [])))
    (hs : ∀ D i H1, H D = none → i < n.toNat → Pv D i H1 → wipe ((wipe σ ws).set k (some (.int (i : Int)))) ws = wipe σ ws ∧ tt ((wipe σ ws).set k (some (.int (i : Int)))) H1 fun b H3 => br b (te ((wipe σ ws).set k (some (.int (i : Int)))) H3 fun y H4 => lcApp D y H4 (Pv D (i + 1))) (Pv D (i + 1) H3))
    (hd : ∀ D H1, H D = none → Pv D n.toNat H1 → Q (.ref D) H1) : lcR [.int n] H (gName k) tt te ws σ Q :=
  ⟨n, rfl, b.1, b.2, fun D hD => lc_range (lo := 0) (n := n.toNat) (g := gName k) (Pv D) (h0 D hD) (fun i H1 hi p => by
    have e : (0 : Int) + (i : Int) = (i : Int) := Int.zero_add _
    show wipe ((wipe σ ws).set k (some (.int ((0 : Int) + (i : Int))))) ws = wipe σ ws ∧ tt ((wipe σ ws).set k (some (.int ((0 : Int) + (i : Int))))) H1 _
    rw [e]
    exact hs D i H1 hD hi p) fun H1 p => hd D H1 hD p⟩
theorem lcL_mk {ws : List Nat} (Pv : Addr → Nat → Hp → Prop) (hx : SqL K H a xs) (h0 : ∀ D, H D = none → Pv D 0 (upd H D (.lst []))) (hl : ∀ D i H1, H D = none → i ≤ xs.length → Pv D i H1 → SqL K H1 a xs)
    (hs : ∀ D i x H1, H D = none → xs[i]? = some x → Pv D i H1 → gt x (wipe σ ws) H1 fun σ2 H2 => wipe σ2 ws = wipe σ ws ∧ tt σ2 H2 fun b H3 => br b (te σ2 H3 fun y H4 => lcApp D y H4 (Pv D (i + 1))) (Pv D (i + 1) H3))
    (hd : ∀ D H1, H D = none → Pv D xs.length H1 → Q (.ref D) H1) : lcL K (.ref a) H gt tt te ws σ Q :=
  ⟨a, rfl, ⟨xs, hx⟩, fun D hD => lc_list (K := K) (a := a) (xs := xs) (Pv D) (h0 D hD) (fun i H1 hi p => hl D i H1 hD hi p) (fun i x H1 hi p => hs D i x H1 hD hi p) fun H1 p => hd D H1 hD p⟩
theorem lcT_mk {ws : List Nat} (Pv : Addr → Nat → Hp → Prop) (hx : SqT K H a xs) (h0 : ∀ D, H D = none → Pv D 0 (upd H D (.lst []))) (hl : ∀ D i H1, H D = none → i ≤ xs.length → Pv D i H1 → SqT K H1 a xs)
    (hs : ∀ D i x H1, H D = none → xs[i]? = some x → Pv D i H1 → gt x (wipe σ ws) H1 fun σ2 H2 => wipe σ2 ws = wipe σ ws ∧ tt σ2 H2 fun b H3 => br b (te σ2 H3 fun y H4 => lcApp D y H4 (Pv D (i + 1))) (Pv D (i + 1) H3))
    (hd : ∀ D H1, H D = none → Pv D xs.length H1 → Q (.ref D) H1) : lcT K (.ref a) H gt tt te ws σ Q :=
  ⟨a, rfl, ⟨xs, hx⟩, fun D hD => lc_tup (K := K) (a := a) (xs := xs) (Pv D) (h0 D hD) (fun i H1 hi p => hl D i H1 hD hi p) (fun i x H1 hi p => hs D i x H1 hD hi p) fun H1 p => hd D H1 hD p⟩
/-- a comprehension that changes nothing: the list of f x, where test x -/
theorem lcL_pure {ws : List Nat} {j : Nat} (f : V → V) (c : V → Bool) (hx : SqL K H a xs) (hz : xs.length < sizeLine) (hw : ∀ x, wipe ((wipe σ ws).set j (some x)) ws = wipe σ ws)
    (ht : ∀ x H1, x ∈ xs → Off [] H H1 → ∀ M : Bool → Hp → Prop, (∀ H2, Off [] H1 H2 → M (c x) H2) → tt ((wipe σ ws).set j (some x)) H1 M)
    (he : ∀ x H1, x ∈ xs → c x = true → Off [] H H1 → ∀ M : V → Hp → Prop, (∀ H2, Off [] H1 H2 → M (f x) H2) → te ((wipe σ ws).set j (some x)) H1 M)
    (q : ∀ D H1, H D = none → Off [] H H1 → H1 D = some (.lst ((xs.filter c).map f)) → Q (.ref D) H1) : lcL K (.ref a) H (gName j) tt te ws σ Q := by
  refine lcL_mk (fun D i H1 => Off [] H H1 ∧ H1 D = some (.lst (((xs.take i).filter c).map f))) hx (fun D hD => ⟨.new hD, by simp [upd_same]⟩) (fun D i H1 hD hi p => p.1.seqL nin_nil hx) (fun D i x H1 hD hi p => ?_) (fun D H1 hD p => q D H1 hD p.1 (by rw [p.2, List.take_length]))
  obtain ⟨p1, p2⟩ := p
  have hxm : x ∈ xs := List.mem_of_getElem? hi
  have et : xs.take (i + 1) = xs.take i ++ [x] := by rw [List.take_add_one, hi]; rfl
  refine ⟨hw x, ht x H1 hxm p1 _ fun H2 o2 => ?_⟩
  cases hc : c x with
  | true =>
    refine br_t (he x H2 hxm hc (p1.trans o2) _ fun H3 o3 => ?_)
    have hD3 : H3 D = some (.lst (((xs.take i).filter c).map f)) := o3.at nin_nil (o2.at nin_nil p2)
    have hl : (((xs.take i).filter c).map f).length < sizeLine := by
      rw [List.length_map]
      refine Nat.lt_of_le_of_lt (Nat.le_trans (List.length_filter_le ..) ?_) hz
      rw [List.length_take]
      omega
    refine g_app hD3 hl ⟨?_, ?_⟩
    · have o := (p1.trans o2).trans o3
      refine ⟨fun b u n e => ?_, fun b u e => ?_, fun b u v e => ?_, fun b u e => ?_⟩
      · rw [upd_ne (ne_of_none e hD)]; exact o.keep b u n e
      · rw [upd_ne (ne_of_none e hD)]; exact o.tups b u e
      · rw [upd_ne (ne_of_none e hD)]; exact o.frzs b u v e
      · rw [upd_ne (ne_of_none e hD)]; exact o.live b u e
    · rw [upd_same, et, List.filter_append, List.map_append]
      simp [hc]
  | false =>
    refine br_f ⟨p1.trans o2, ?_⟩
    rw [o2.at nin_nil p2, et, List.filter_append, List.map_append]
    simp [hc]
theorem lcT_pure {ws : List Nat} {j : Nat} (f : V → V) (c : V → Bool) (hx : SqT K H a xs) (hz : xs.length < sizeLine) (hw : ∀ x, wipe ((wipe σ ws).set j (some x)) ws = wipe σ ws)
    (ht : ∀ x H1, x ∈ xs → Off [] H H1 → ∀ M : Bool → Hp → Prop, (∀ H2, Off [] H1 H2 → M (c x) H2) → tt ((wipe σ ws).set j (some x)) H1 M)
    (he : ∀ x H1, x ∈ xs → c x = true → Off [] H H1 → ∀ M : V → Hp → Prop, (∀ H2, Off [] H1 H2 → M (f x) H2) → te ((wipe σ ws).set j (some x)) H1 M)
    (q : ∀ D H1, H D = none → Off [] H H1 → H1 D = some (.lst ((xs.filter c).map f)) → Q (.ref D) H1) : lcT K (.ref a) H (gName j) tt te ws σ Q := by
  refine lcT_mk (fun D i H1 => Off [] H H1 ∧ H1 D = some (.lst (((xs.take i).filter c).map f))) hx (fun D hD => ⟨.new hD, by simp [upd_same]⟩) (fun D i H1 hD hi p => p.1.seqT hx) (fun D i x H1 hD hi p => ?_) (fun D H1 hD p => q D H1 hD p.1 (by rw [p.2, List.take_length]))
  obtain ⟨p1, p2⟩ := p
  have hxm : x ∈ xs := List.mem_of_getElem? hi
  have et : xs.take (i + 1) = xs.take i ++ [x] := by rw [List.take_add_one, hi]; rfl
  refine ⟨hw x, ht x H1 hxm p1 _ fun H2 o2 => ?_⟩
  cases hc : c x with
  | true =>
    refine br_t (he x H2 hxm hc (p1.trans o2) _ fun H3 o3 => ?_)
    have hD3 : H3 D = some (.lst (((xs.take i).filter c).map f)) := o3.at nin_nil (o2.at nin_nil p2)
    have hl : (((xs.take i).filter c).map f).length < sizeLine := by
      rw [List.length_map]
      refine Nat.lt_of_le_of_lt (Nat.le_trans (List.length_filter_le ..) ?_) hz
      rw [List.length_take]
      omega
    refine g_app hD3 hl ⟨?_, ?_⟩
    · have o := (p1.trans o2).trans o3
      refine ⟨fun b u n e => ?_, fun b u e => ?_, fun b u v e => ?_, fun b u e => ?_⟩
      · rw [upd_ne (ne_of_none e hD)]; exact o.keep b u n e
      · rw [upd_ne (ne_of_none e hD)]; exact o.tups b u e
      · rw [upd_ne (ne_of_none e hD)]; exact o.frzs b u v e
      · rw [upd_ne (ne_of_none e hD)]; exact o.live b u e
    · rw [upd_same, et, List.filter_append, List.map_append]
      simp [hc]
  | false =>
    refine br_f ⟨p1.trans o2, ?_⟩
    rw [o2.at nin_nil p2, et, List.filter_append, List.map_append]
    simp [hc]
end
end SH
namespace SH
open PySem PySem.Spec L2
/-! #### a statement, then the rest with a word between -/
def tCut (t u : TS) : TS := fun D σ H => ∃ Mid : L2.St → Hp → Prop, t { D with nx := Mid } σ H ∧ ∀ σ' H', Mid σ' H' → u D σ' H'
theorem pss_cut {X : Cx} {st : Stmt} {rest : List Stmt} {t u : TS} (h1 : PS X st t) (h2 : PSs X rest u) : PSs X (st :: rest) (tCut t u) := by
  refine ⟨fun pins s σ H D I h => ?_⟩
  obtain ⟨Mid, hm, hu⟩ := h
  refine wpAny_execs_cons (thn (h1.run pins s σ H { D with nx := Mid } I hm) fun f s1 q => ?_)
  cases f with
  | next =>
    obtain ⟨σ', H', I', q⟩ := q
    exact h2.run pins s1 σ' H' D I' (hu σ' H' q)
  | ret v => exact q
  | brk => exact q
  | cont => exact q
theorem g_cut {t u : TS} {N R Bk Ct} {σ : L2.St} {H : Hp} (Mid : L2.St → Hp → Prop) (h : t ⟨Mid, R, Bk, Ct⟩ σ H) (k : ∀ σ' H', Mid σ' H' → u ⟨N, R, Bk, Ct⟩ σ' H') : tCut t u ⟨N, R, Bk, Ct⟩ σ H := ⟨Mid, h, k⟩
theorem atI_nat' {α : Type} {xs : List α} {i : Int} (h0 : 0 ≤ i) (h1 : i < xs.length) : ∃ v, atI xs i = some v ∧ v ∈ xs ∧ xs[i.toNat]? = some v := by
  unfold atI ixN
  rw [if_pos h0, if_pos h1]
  have h : i.toNat < xs.length := by omega
  exact ⟨xs[i.toNat], by simp [h], List.getElem_mem h, by simp [h]⟩
theorem atI_refs {bs : List Addr} {b : Nat} {a : Addr} (h : bs[b]? = some a) : atI (bs.map V.ref) (b : Int) = some (.ref a) := by
  have hl : b < bs.length := (List.getElem?_eq_some_iff.mp h).1
  unfold atI ixN
  rw [if_pos (by omega), if_pos (by rw [List.length_map]; omega)]
  simp [h]
theorem g_dpR' {M : Hp → Prop} {kvs kvs' : List (Key × V)} {k : Str} {a : Addr} {v : V} {H : Hp} (h : H a = some (.dK kvs)) (e : putK kvs (Sum.inr k) v = kvs') (hl : kvs.length < sizeLine) (q : M (upd H a (.dK kvs'))) : dpR v (.ref a) (.str k) H M := g_dpR h hl (by rw [e]; exact q)
theorem cutV_len (xs : List V) (lo hi : Option Int) : (cutV xs lo hi).length ≤ xs.length := by
  unfold cutV
  rw [List.length_take, List.length_drop]
  omega
theorem mem_cutV {xs : List V} {lo hi : Option Int} {v : V} (h : v ∈ cutV xs lo hi) : v ∈ xs := List.mem_of_mem_drop (List.mem_of_mem_take h)
theorem Off.mut {S : List Addr} {H H1 : Hp} {p : Addr} {o : HO} (x : Off S H H1) (h : H p = none) : Off S H (upd H1 p o) := by
  refine ⟨fun b u n e => ?_, fun b u e => ?_, fun b u v e => ?_, fun b u e => ?_⟩
  · rw [upd_ne (ne_of_none e h)]; exact x.keep b u n e
  · rw [upd_ne (ne_of_none e h)]; exact x.tups b u e
  · rw [upd_ne (ne_of_none e h)]; exact x.frzs b u v e
  · rw [upd_ne (ne_of_none e h)]; exact x.live b u e
theorem Off.trans' {S S' : List Addr} {H H1 H2 : Hp} (x : Off S H H1) (y : Off S' H1 H2) (h : ∀ a ∈ S', a ∈ S) : Off S H H2 := x.trans (y.mono h)
theorem Off.put2 {S : List Addr} {H H1 : Hp} {p : Addr} {o u : HO} (x : Off S H H1) (hm : p ∈ S) (h : H1 p = some u) (hu : Mut (some u)) : Off S H (upd H1 p o) := x.trans (.put hm h hu)
theorem seqT_new {K : PySem.W.Frag} {H : Hp} {a p : Addr} {xs : List V} {o : HO} (h : SqT K H a xs) (hp : H p = none) : SqT K (upd H p o) a xs := (Off.new (S := []) hp).seqT h
theorem seqL_new {K : PySem.W.Frag} {H : Hp} {a p : Addr} {xs : List V} {o : HO} (h : SqL K H a xs) (hp : H p = none) : SqL K (upd H p o) a xs := (Off.new (S := []) hp).seqL nin_nil h
theorem Off.new2 {S : List Addr} {H H1 : Hp} {p : Addr} {o : HO} (x : Off S H H1) (h : H1 p = none) : Off S H (upd H1 p o) := x.trans (.new h)
end SH
end

section
namespace SH
open PySem PySem.Spec PyProof.Rows L2
/-! #### max, min, sum of a tuple of ints -/
section
variable {prog : Program} {w : World} {A : Around} {E : Value → Shared → Prop} {s : Shared} {l : Addr} {xs : Array (Int × Tok)}
theorem iter_intTup {Q : Value → Shared → Prop} (hl : s.heap.IsTuple l (intItems xs))
    (h : ∀ s₂ : Shared, s₂ = { s with heap := s.heap.push { cls := .type "tuple_iterator", data := .fields #[.ref l, .int 0 0] } } →
      (s₂.heap.IsTupleIter s.heap.objs.size l 0 ∧ s₂.heap.IsTuple l (intItems xs)) → (∀ b ∈ [s.heap.objs.size, l], b < s₂.heap.objs.size) → l ≠ s.heap.objs.size → Q (.ref s.heap.objs.size) s₂) :
    wpAny (model prog w) A (pyIter (.ref l)) Q E s := by
  have hlt : l < s.heap.objs.size := by obtain ⟨_, e, _⟩ := hl; exact Heap.lt_size e
  refine wpAny_pyIter_tuple hl (h _ rfl ⟨⟨_, Heap.get?_push_size _ rfl, rfl, rfl⟩, hl.push _⟩ (fun b hb => ?_) (Nat.ne_of_lt hlt))
  show b < (s.heap.push _).objs.size
  rw [Heap.size_push]
  rcases List.mem_cons.mp hb with rfl | hb
  · exact Nat.lt_succ_self _
  · rcases List.mem_cons.mp hb with rfl | hb
    · exact Nat.lt_succ_of_lt hlt
    · cases hb
theorem old_keptT {h' : Heap} (hk : ∀ b o, b ∉ [s.heap.objs.size] → (s.heap.push { cls := .type "tuple_iterator", data := .fields #[.ref l, .int 0 0] }).get? b = some o → h'.get? b = some o) :
    ∀ b o, s.heap.get? b = some o → h'.get? b = some o := fun b o e => by
  refine hk b o (fun hm => ?_) (Heap.get?_push_of_some _ e)
  rcases List.mem_cons.mp hm with e1 | hm
  · exact absurd (e1 ▸ Heap.lt_size e) (Nat.lt_irrefl _)
  · cases hm
theorem max_intTup {Q : Value → Shared → Prop} (hh : A.handled = none) (hl : s.heap.IsTuple l (intItems xs)) (hne : 0 < xs.size)
    (h : ∀ v h' tk, (intItems xs)[argBest (fun i j => decide (numAt xs i > numAt xs j)) (xs.size - 1)]? = some v → (∀ b o, s.heap.get? b = some o → h'.get? b = some o) → Q v { s with heap := h', toks := tk }) :
    wpAny (model prog w) A (call (.builtin "max") [.ref l]) Q E s := by
  refine call_max_walk (iter_intTup hl fun s₂ e st hfp hlI => ?_)
  subst e
  refine ⟨_, _, _, _, _, _, _, rfl, Walks.tuple (A := A.in1) hh _ l hlI (intItems xs), st, hfp, by simpa [intItems] using hne, CmpOf.ints_gt (numAt xs) (fun _ _ => intItems_at), fun v h' tk hP hk => ?_⟩
  exact h v h' tk (by simpa [intItems] using hP) (old_keptT hk)
theorem sum_intTup {Q : Value → Shared → Prop} (hh : A.handled = none) (hl : s.heap.IsTuple l (intItems xs)) (hfit : ∀ j, j < xs.size → InLong (numAt xs j) ∧ InLong (preSum (numAt xs) (j + 1)))
    (h : ∀ h' tk t', (∀ b o, s.heap.get? b = some o → h'.get? b = some o) → Q (.int (preSum (numAt xs) xs.size) t') { s with heap := h', toks := tk }) :
    wpAny (model prog w) A (call (.builtin "sum") [.ref l]) Q E s := by
  refine call_sum_walk (iter_intTup hl fun s₂ e st hfp hlI => ?_)
  subst e
  refine ⟨_, _, _, _, _, _, numAt xs, rfl, Walks.tuple (A := A.in1) hh _ l hlI (intItems xs), st, hfp, (fun _ _ => intItems_at), (fun j hj => hfit j (by simpa [intItems] using hj)), fun h' tk t' hk => ?_⟩
  have := h h' tk t' (old_keptT hk)
  simpa [intItems] using this
theorem max_rawT {its : List Value} {ns : List Int} {Q : Value → Shared → Prop} (hh : A.handled = none) (hl : s.heap.IsTuple l its.toArray) (hi : IntsAre its ns) (hne : 0 < ns.length)
    (h : ∀ h' tk M t', (∀ b o, s.heap.get? b = some o → h'.get? b = some o) → M ∈ ns → (∀ a, a ∈ ns → a ≤ M) → Q (.int M t') { s with heap := h', toks := tk }) : wpAny (model prog w) A (call (.builtin "max") [.ref l]) Q E s := by
  obtain ⟨xs, e⟩ := hi.allInts.items
  have hn : numsOf (intItems xs).toList = ns := by rw [← e]; exact hi.numsOf
  rw [nums_intItems] at hn
  subst hn
  rw [e] at hl
  have hsz : 0 < xs.size := by simpa using hne
  refine max_intTup hh hl hsz fun v h' tk hv hk => ?_
  obtain ⟨t, rfl⟩ := intItems_at hv
  obtain ⟨h1, h2⟩ := argBest_gt (numAt xs) (xs.size - 1)
  refine h h' tk _ t hk ?_ fun a ha => ?_
  · rw [numAt_eq]; exact PySem.getD_mem (by rw [List.length_map, Array.length_toList]; omega)
  · obtain ⟨j, hj, rfl⟩ := mem_getD ha
    rw [List.length_map, Array.length_toList] at hj
    rw [← numAt_eq]; exact h2 j (by omega)
end
def rMaxT (K : PySem.W.Frag) : List V → Hp → VK → Prop := fun vs H Q => ∃ (a : Addr) (ns : List Int), vs = [V.ref a] ∧ SqT K H a (ns.map V.int) ∧ 0 < ns.length ∧ ∀ m, m ∈ ns → (∀ y, y ∈ ns → y ≤ m) → Q (.int m) H
theorem cr_maxT {X : Cx} (hc : X.calm = true) : CallR X (.builtin "max") (rMaxT X.K) := by
  intro pins s σ H vs us Q I r h
  obtain ⟨a, ns, rfl, hs, hne, q⟩ := h
  obtain ⟨its, rv, hl, _⟩ := I.tuple hs
  rw [Vals.ref1 r]
  exact max_rawT (I.ok.hd hc) hl rv.ints hne fun h' tk m t' hk h1 h2 => ⟨.int _, H, I.kept hk, ⟨_, rfl⟩, q m h1 h2⟩
end SH
end

section
namespace SH
open PySem PySem.Spec PyProof.Rows L2
/-! #### the rules with the written part named (within a comprehension's block it is the def's own) -/
section
variable {X : Cx} {K : PySem.W.Frag}
theorem ix_listK (h : X.K = K) : IxR X (rIxL K) := by subst h; exact ix_list
theorem ix_tupK (h : X.K = K) : IxR X (rIxT K) := by subst h; exact ix_tup
theorem c_lenK (h : X.K = K) : CallR X (.builtin "len") (rLen K) := by subst h; exact c_len
theorem c_tupK (h : X.K = K) : CallR X (.type "tuple") (rTup K) := by subst h; exact c_tup
theorem c_lstK (h : X.K = K) : CallR X (.type "list") (rLst K) := by subst h; exact c_lst
theorem sl_listK (h : X.K = K) : SlR X (rSlL K) := by subst h; exact sl_list
theorem op_in_seqK (h : X.K = K) : OpR X (compareOp .In) (rIn K false) := by subst h; exact op_in_seq
theorem op_notIn_seqK (h : X.K = K) : OpR X (compareOp .NotIn) (rIn K true) := by subst h; exact op_notIn_seq
theorem op_eqDK (h : X.K = K) (hu : X.A.units + 64 < cLine) : OpR X (compareOp .Eq) (rEqD K) := by subst h; exact op_eqD hu
theorem op_neDK (h : X.K = K) (hu : X.A.units + 64 < cLine) : OpR X (compareOp .NotEq) (rNeD K) := by subst h; exact op_neD hu
theorem call_isiK' (h : X.K = K) : CallR X (.builtin "isinstance") (rIsi K) := by subst h; exact call_isi
theorem cr_anyK (h : X.K = K) (hc : X.calm = true) : CallR X (.builtin "any") (rAny K) := by subst h; exact cr_any hc
theorem cr_allK (h : X.K = K) (hc : X.calm = true) : CallR X (.builtin "all") (rAll K) := by subst h; exact cr_all hc
theorem cr_sumK (h : X.K = K) (hc : X.calm = true) : CallR X (.builtin "sum") (rSum K) := by subst h; exact cr_sum hc
theorem cr_maxK (h : X.K = K) (hc : X.calm = true) : CallR X (.builtin "max") (rMax K) := by subst h; exact cr_max hc
theorem cr_maxTK (h : X.K = K) (hc : X.calm = true) : CallR X (.builtin "max") (rMaxT K) := by subst h; exact cr_maxT hc
theorem cr_sortedK (h : X.K = K) : CallR X (.builtin "sorted") (rSorted K) := by subst h; exact cr_sorted
theorem cr_sortedSK (h : X.K = K) : CallR X (.builtin "sorted") (rSortedS K) := by subst h; exact cr_sortedS
variable {e o : Expr} {es : List Expr} {ta to te : TE} {t : TA} {f name : Str} {id T : String} {r : V → List V → Hp → VK → Prop} {pos apos cpos : Pos} {tg iter l : Expr} {n k : Nat} {tgs : TGs}
theorem pe_fldK (h : X.K = K) (he : PE X e ta) (hb : attributeBase e f X.env (eval e X.env) = eval e X.env) : PE X (.Attribute e f pos) (tFld K ta f) := by subst h; exact pe_fld he hb
theorem pi_listK (h : X.K = K) (hl : PE X l te) : PI X tg l (iList K te) := by subst h; exact pi_list hl
theorem pi_tupK (h : X.K = K) (hl : PE X l te) : PI X tg l (iTup K te) := by subst h; exact pi_tup hl
theorem pg_tupK (h : X.K = K) (hc : X.calm = true) (hg : PGs X es tgs) (hn : (assignEach es X.env).length = n := by rfl) (hst : (assignEach es X.env).findIdx? (·.1) = none := by rfl) : PG X (.Tuple es k pos) (gTup K n tgs) := by
  subst h; exact pg_tup hc hg hn hst
theorem pe_bmK (h : X.K = K) (pa : PlainAttrs T) (slot : Slot T name id) (hty : typeOf (.builtin id) = pure (.type "method_descriptor")) (hm : MtR X id r) (ho : PE X o to) (ha : PA X (e :: es) t)
    (hbase : attributeBase o name X.env (eval o X.env) = eval o X.env := by rfl)
    (hfew : ((backTo cpos (starEach (e :: es) X.env)).all (fun x => !x.1) && (backToKw cpos (keywordEach [] X.env)).all (fun x => x.1.isSome)
      && decide ((e :: es).length + ([] : List Keyword).length + (if ([] : List Keyword).isEmpty then 0 else 1) < 30)) = true := by rfl)
    (hline : (apos.endLine == cpos.line) = true := by rfl) (hs : starEach (e :: es) X.env = (false, eval e X.env) :: starEach es X.env := by rfl) (hplain : (backTo cpos (starEach es X.env)).any (·.1) = false := by rfl) :
    PE X (.Call (.Attribute o name apos) (e :: es) [] cpos) (tBM K T r to t) := by
  subst h; exact pe_bm pa slot hty hm ho ha hbase hfew hline hs hplain
end
end SH
end

section
namespace SH
open PySem PySem.Spec PyProof.Rows L2
/-! #### methods of own classes, attributes put anew, lists changed in place -/
section
variable {X : Cx} {x m : Str} {k : Nat} {ps : List Str} {sp : Sp} {C : Addr} {E : XK} {p pos apos : Pos} {e o : Expr} {es : List Expr} {ta : TE} {t : TA}
theorem pe_mth {pl : Sem Bool} (D : MthOk X.prog X.w X.K X.mg X.base C m k ps sp) (hr : Room k X.A) (hx : Passes (L2N.CX X.prog X.w) X E) (ho : PE X o ta) (ha : PA X (e :: es) t)
    (hst : starEach (e :: es) X.env = (false, eval e X.env) :: starEach es X.env := by rfl) (hpl : (backTo pos (starEach es X.env)).any (·.1) = false := by rfl)
    (ht : eval (.Call (.Attribute o m apos) (e :: es) [] pos) X.env = (do
      let ov ← eval o X.env
      standAt apos.atName
      let (f, first) ← holding [ov] (getMethod ov m pl)
      callWith pos f first (backTo pos (starEach (e :: es) X.env)) (backToKw pos (keywordEach [] X.env))) := by rfl) :
    PE X (.Call (.Attribute o m apos) (e :: es) [] pos) (tMeth C m sp [] E ta t) := by
  obtain ⟨f, fd, F, hm, hb, hc⟩ := D
  exact pe_meth ho hc hm F hr hb .nil hx ha hst hpl ht
theorem pe_mth0 {pl : Sem Bool} (D : MthOk X.prog X.w X.K X.mg X.base C m k ps sp) (hr : Room k X.A) (hx : Passes (L2N.CX X.prog X.w) X E) (ho : PE X o ta)
    (ht : eval (.Call (.Attribute o m apos) [] [] pos) X.env = (do
      let ov ← eval o X.env
      standAt apos.atName
      let (f, first) ← holding [ov] (getMethod ov m pl)
      callWith pos f first (backTo pos (starEach [] X.env)) (backToKw pos (keywordEach [] X.env))) := by rfl) :
    PE X (.Call (.Attribute o m apos) [] [] pos) (tMeth C m sp [] E ta tNil) := by
  obtain ⟨f, fd, F, hm, hb, hc⟩ := D
  exact pe_meth0 ho hc hm F hr hb .nil hx ht
theorem pe_mk0 (D : MkOk X.prog X.w X.K X.mg X.base x C k ps sp) (hr : Room (k + 1) X.A) (hx : Passes (L2N.CX X.prog X.w) X E) (hg : Gl X x := by rfl) (hdb : (x == ("__debug__" : Str)) = false := by decide) :
    PE X (.Call (.Name x p) [] [] pos) (tMake C sp [] E tNil) := by
  obtain ⟨f, fd, F, hm, hk, hb⟩ := D
  exact pe_make0 hm F hr hg hk hb .nil hx hdb
theorem ps_fldK {K : PySem.W.Frag} {o value : Expr} {f : Str} {pos pos' : Pos} {ta tv : TE} (h : X.K = K) (ha : PE X o ta) (hv : PE X value tv) (hs : swapsWith value (some (.Attribute o f pos')) pos.line X.env = pure false) : PS X (.Assign [.Attribute o f pos'] value pos) (sFld K ta tv f) := by
  subst h; exact ps_fld ha hv hs
theorem ps_fldaugK {K : PySem.W.Frag} {o value : Expr} {f : Str} {pos tpos : Pos} {ta tv : TE} {op : Operator} {rd : V → V → Hp → VK → Prop} (h : X.K = K) (ha : PE X o ta) (hv : PE X value tv) (hop : InOp X op rd) : PS X (.AugAssign (.Attribute o f tpos) op value pos) (sFldAug K ta tv rd f) := by
  subst h; exact ps_fldaug ha hv hop
end
section
variable {K : PySem.W.Frag} {σ : L2.St} {H : Hp} {Q : VK} {x y v : V} {i j : Int} {ta te tv : TE} {tA : TA} {a p C dx : Addr} {fs fs' : List (Str × V)} {f : Str} {xs vs : List V} {N : L2.St → Hp → Prop} {R : VK} {Bk Ct : L2.St → Hp → Prop} {M : Hp → Prop} {rd : V → V → Hp → VK → Prop}
theorem szf {α : Type} {xs : List α} (h : Nat.ble (xs.length + 1) 1000 = true) : xs.length < 1000 := by
  have := Nat.le_of_ble_eq_true h
  omega
theorem g_stA (h : H a = some (.ins C dx fs)) (c : Cls K C) (na : NoAttr K C f) (e : putF f y fs = fs') (hl : fs.length < 1000) (q : ∀ H', H' a = some (.ins C dx fs') → Off [a] H H' → M H') : stR K f y (.ref a) H M :=
  g_stR h c na hl (q _ (by rw [e]; exact upd_same) (.put (by simp) h trivial))
def putA (f : Str) (a : Addr) (M : Hp → Prop) (z : V) (H3 : Hp) : Prop := ∃ dx' fs' C, H3 a = some (.ins C dx' fs') ∧ fs'.length < 1000 ∧ M (upd H3 a (.ins C dx' (putF f z fs')))
def augR (K : PySem.W.Frag) (f : Str) (tv : TE) (rd : V → V → Hp → VK → Prop) (σ : L2.St) (M : Hp → Prop) (x : V) (H1 : Hp) : Prop := ∃ a C dx fs v, x = .ref a ∧ H1 a = some (.ins C dx fs) ∧ Cls K C ∧ NoAttr K C f ∧ fs.lookup f = some v ∧
  tv σ H1 fun y H2 => rd v y H2 fun z H3 => ∃ dx' fs', H3 a = some (.ins C dx' fs') ∧ fs'.length < 1000 ∧ M (upd H3 a (.ins C dx' (putF f z fs')))
theorem g_fldAug (q : ta σ H (augR K f tv rd σ (N σ))) : sFldAug K ta tv rd f ⟨N, R, Bk, Ct⟩ σ H := q
def putC (f : Str) (a C : Addr) (M : Hp → Prop) (z : V) (H3 : Hp) : Prop := ∃ dx' fs', H3 a = some (.ins C dx' fs') ∧ fs'.length < 1000 ∧ M (upd H3 a (.ins C dx' (putF f z fs')))
theorem g_augR (h : H a = some (.ins C dx fs)) (c : Cls K C) (na : NoAttr K C f) (l : fs.lookup f = some v) (q : tv σ H fun y H2 => rd v y H2 (putC f a C M)) : augR K f tv rd σ M (.ref a) H := ⟨a, C, dx, fs, v, rfl, h, c, na, l, q⟩
theorem g_putC {z : V} (h : H a = some (.ins C dx fs)) (e : putF f z fs = fs') (hl : fs.length < 1000) (q : ∀ H', H' a = some (.ins C dx fs') → Off [a] H H' → M H') : putC f a C M z H :=
  ⟨dx, fs, h, hl, q _ (by rw [e]; exact upd_same) (.put (by simp) h trivial)⟩
theorem g_rAdd (q : Q (.int (i + j)) H) : rAdd (.int i) (.int j) H Q := ⟨i, j, rfl, rfl, q⟩
theorem g_rSub (q : Q (.int (i - j)) H) : rSub (.int i) (.int j) H Q := ⟨i, j, rfl, rfl, q⟩
theorem g_app' (h : H a = some (.lst xs)) (hl : xs.length < sizeLine) (q : ∀ H', H' a = some (.lst (xs ++ [y])) → Off [a] H H' → Q .non H') : rAppend (.ref a) [y] H Q := ⟨a, xs, y, rfl, rfl, h, hl, q _ upd_same (.put (by simp) h trivial)⟩
theorem g_popF (h : H a = some (.lst (x :: xs))) (q : ∀ H', H' a = some (.lst xs) → Off [a] H H' → Q x H') : rPopAt (.ref a) [.int 0] H Q :=
  ⟨a, x :: xs, 0, 0, x, rfl, rfl, h, by decide, by decide, by simp [seqIndex?], rfl, q _ upd_same (.put (by simp) h trivial)⟩
theorem g_bml {r : V → List V → Hp → VK → Prop} (h : SqL K H a xs) (q : tA σ H fun xs H2 => r (.ref a) xs H2 Q) : tyV K "list" (.ref a) H ∧ tA σ H (fun xs H2 => r (.ref a) xs H2 Q) := ⟨.inl ⟨rfl, _, h⟩, q⟩
theorem g_isiOwn {C' : Addr} {b : Bool} (h : H a = some (.ins C dx fs)) (cl : Cls K C) (o : IsOwn K C) (e : PySem.W.kitOne K (.ref C) (.ref C') = some b) (q : Q (.bl b) H) : rIsi K [.ref a, .ref C'] H Q :=
  ⟨.ref a, .ref C', _, _, b, rfl, .own C', .base (.ins h cl o.ha o.hn o.ht o.hm), e, q⟩
theorem kit_self {C : Addr} : PySem.W.kitOne K (.ref C) (.ref C) = some true := by
  unfold PySem.W.kitOne
  rw [if_pos (by simp)]
theorem g_isiSelf (h : H a = some (.ins C dx fs)) (cl : Cls K C) (o : IsOwn K C) (q : Q (.bl true) H) : rIsi K [.ref a, .ref C] H Q := g_isiOwn h cl o kit_self q
theorem br_k {k : Kd} {A B : Prop} (q : A) : br (k == k) A B := by
  have e : (k == k) = true := by cases k <;> rfl
  rw [e]; exact br_t q
theorem br_nk {k : Kd} {A B : Prop} (q : B) : br (!(k == k)) A B := by
  have e : (k == k) = true := by cases k <;> rfl
  rw [e]; exact br_f q
theorem br_ntt {A B : Prop} (q : B) : br (!true) A B := br_f q
theorem br_ntf {A B : Prop} (q : A) : br (!false) A B := br_t q
theorem br_inF {A B : Prop} (h : inV x xs = false) (q : B) : br (inV x xs) A B := by rw [h]; exact br_f q
theorem br_inT {A B : Prop} (h : inV x xs = true) (q : A) : br (inV x xs) A B := by rw [h]; exact br_t q
theorem g_inT (h : SqT K H a xs) (hx : flatV x = true) (ha : xs.all flatV = true) (q : Q (.bl (inV x xs)) H) : rIn K false x (.ref a) H Q := g_in (.inr h) hx ha (by rw [if_neg (by decide)]; exact q)
end
section
variable {K : PySem.W.Frag} {σ : L2.St} {H : Hp} {Q : VK} {te : TE} {tt : TT} {gt : TG} {a : Addr} {xs : List V}
theorem lcL_at {ws : List Nat} (ys : List V) (hx : SqL K H a xs) (hl : ys.length = xs.length) (hz : xs.length < sizeLine)
    (hs : ∀ (i : Nat) (x y : V) (H1 : Hp), xs[i]? = some x → ys[i]? = some y → Off [] H H1 → ∀ (M : V → Hp → Prop) (N : Hp → Prop), (∀ H2, Off [] H1 H2 → M y H2) → gt x (wipe σ ws) H1 fun σ2 H2 => wipe σ2 ws = wipe σ ws ∧ tt σ2 H2 fun b H3 => br b (te σ2 H3 M) (N H3))
    (q : ∀ D H1, H D = none → Off [] H H1 → H1 D = some (.lst ys) → Q (.ref D) H1) : lcL K (.ref a) H gt tt te ws σ Q := by
  refine lcL_mk (fun D i H1 => Off [] H H1 ∧ H1 D = some (.lst (ys.take i))) hx (fun D hD => ⟨.new hD, by simp [upd_same]⟩) (fun D i H1 hD hi p => p.1.seqL nin_nil hx) (fun D i x H1 hD hi p => ?_) (fun D H1 hD p => q D H1 hD p.1 (by rw [p.2, ← hl, List.take_length]))
  obtain ⟨p1, p2⟩ := p
  have hlt : i < ys.length := by rw [hl]; exact (List.getElem?_eq_some_iff.mp hi).1
  have hy : ys[i]? = some ys[i] := List.getElem?_eq_getElem hlt
  refine hs i x _ H1 hi hy p1 _ _ fun H2 o2 => ?_
  refine g_app (o2.at nin_nil p2) (by rw [List.length_take]; omega) ⟨(p1.trans o2).mut hD, ?_⟩
  rw [upd_same, List.take_add_one, hy]
  rfl
theorem lcT_at {ws : List Nat} (ys : List V) (hx : SqT K H a xs) (hl : ys.length = xs.length) (hz : xs.length < sizeLine)
    (hs : ∀ (i : Nat) (x y : V) (H1 : Hp), xs[i]? = some x → ys[i]? = some y → Off [] H H1 → ∀ (M : V → Hp → Prop) (N : Hp → Prop), (∀ H2, Off [] H1 H2 → M y H2) → gt x (wipe σ ws) H1 fun σ2 H2 => wipe σ2 ws = wipe σ ws ∧ tt σ2 H2 fun b H3 => br b (te σ2 H3 M) (N H3))
    (q : ∀ D H1, H D = none → Off [] H H1 → H1 D = some (.lst ys) → Q (.ref D) H1) : lcT K (.ref a) H gt tt te ws σ Q := by
  refine lcT_mk (fun D i H1 => Off [] H H1 ∧ H1 D = some (.lst (ys.take i))) hx (fun D hD => ⟨.new hD, by simp [upd_same]⟩) (fun D i H1 hD hi p => p.1.seqT hx) (fun D i x H1 hD hi p => ?_) (fun D H1 hD p => q D H1 hD p.1 (by rw [p.2, ← hl, List.take_length]))
  obtain ⟨p1, p2⟩ := p
  have hlt : i < ys.length := by rw [hl]; exact (List.getElem?_eq_some_iff.mp hi).1
  have hy : ys[i]? = some ys[i] := List.getElem?_eq_getElem hlt
  refine hs i x _ H1 hi hy p1 _ _ fun H2 o2 => ?_
  refine g_app (o2.at nin_nil p2) (by rw [List.length_take]; omega) ⟨(p1.trans o2).mut hD, ?_⟩
  rw [upd_same, List.take_add_one, hy]
  rfl
end
end SH
end

section
namespace SH
open PySem PySem.Spec PyProof.Rows L2
/-! ### own errors that are caught -/
/-- what the class at C must say so that a caught one's field f is read, and isinstance asks it rightly -/
structure XcOk (K : PySem.W.Frag) (C : Addr) (f : Str) : Prop where
  xf : XfC K C
  nf : PySem.W.findIn K (.ref C) f = some none
  cl : (PySem.W.clsIn K C).isSome = true
  ha : PySem.W.findIn K (.ref C) "__class__" = some (some (.builtin "object.__class__"))
  hn : PySem.W.specialIn K (.builtin "object.__class__") "__get__" = some (some (.builtin "getset_descriptor.__get__"))
  ht : PySem.W.takesIn K (.builtin "object.__class__") = some true
  hm : PySem.W.mroIn K C (.type "object") = some true
def xcBs (K : PySem.W.Frag) (C : Addr) (f : Str) : List Bool := [xfB K C, decide (PySem.W.findIn K (.ref C) f = some none), (PySem.W.clsIn K C).isSome,
  decide (PySem.W.findIn K (.ref C) "__class__" = some (some (.builtin "object.__class__"))), decide (PySem.W.specialIn K (.builtin "object.__class__") "__get__" = some (some (.builtin "getset_descriptor.__get__"))),
  decide (PySem.W.takesIn K (.builtin "object.__class__") = some true), decide (PySem.W.mroIn K C (.type "object") = some true)]
def xcB (K : PySem.W.Frag) (C : Addr) (f : Str) : Bool := (xcBs K C f).all id
theorem xcB_ok {K : PySem.W.Frag} {C : Addr} {f : Str} (h : xcB K C f = true) : XcOk K C f := by
  have a : ∀ b ∈ xcBs K C f, b = true := fun b hb => List.all_eq_true.mp h b hb
  exact ⟨xfB_ok (a _ (by simp [xcBs])), of_decide_eq_true (a _ (by simp [xcBs])), a _ (by simp [xcBs]), of_decide_eq_true (a _ (by simp [xcBs])), of_decide_eq_true (a _ (by simp [xcBs])), of_decide_eq_true (a _ (by simp [xcBs])), of_decide_eq_true (a _ (by simp [xcBs]))⟩
/-- whether errors of the class at C are of that at D -/
structure XrOk (K : PySem.W.Frag) (C D : Addr) (b : Bool) : Prop where
  ex : PySem.W.exmOne K (.ref C) (.ref D) = some b
  kt : PySem.W.kitOne K (.ref C) (.ref D) = some b
def xrB (K : PySem.W.Frag) (C D : Addr) (b : Bool) : Bool := decide (PySem.W.exmOne K (.ref C) (.ref D) = some b) && decide (PySem.W.kitOne K (.ref C) (.ref D) = some b)
theorem xrB_ok {K : PySem.W.Frag} {C D : Addr} {b : Bool} (h : xrB K C D b = true) : XrOk K C D b := by
  unfold xrB at h
  rw [Bool.and_eq_true] at h
  exact ⟨of_decide_eq_true h.1, of_decide_eq_true h.2⟩
/-- isinstance(e, c), e a caught error of the class at D with a dict -/
def rIsX (K : PySem.W.Frag) (D a : Addr) (cls : Value) (d : Option Addr) : List V → Hp → VK → Prop := fun xs H Q => ∃ (C dd : Addr) (fs : List (Str × V)) (b : Bool), xs = [.ref a, .ref C] ∧ cls = .ref D ∧ d = some dd ∧ H dd = some (.xd fs) ∧ PySem.W.kitOne K (.ref D) (.ref C) = some b ∧ Q (.bl b) H
theorem call_isX {X : Cx} {a D : Addr} {f : Str} {cls : Value} {d : Option Addr} {oe : Obj} {pn : List (Addr × Obj)} (T : XcOk X.K D f) (hz : Zc cls d oe) (hf : ∃ vs, oe.data = .fields vs) :
    CallR (X.suite a ((a, oe) :: pn)) (.builtin "isinstance") (rIsX X.K D a cls d) := by
  intro pins s σ H xs us Q I r h
  obtain ⟨C, dd, fs, b, rfl, rfl, rfl, hd, e, q⟩ := h
  obtain ⟨u1, u2, rfl, rfl, rfl⟩ : ∃ u1 u2, us = [u1, u2] ∧ u1 = Value.ref a ∧ u2 = Value.ref C := by
    cases r with
    | cons r1 r2 => cases r2 with
      | cons r3 r4 =>
        cases r4
        exact ⟨_, _, rfl, r1, r3⟩
  obtain ⟨ge, _⟩ := I.pin (a, oe) (by simp)
  obtain ⟨vs, hv⟩ := hf
  obtain ⟨m, ns, _⟩ := (I.hok dd _ hd : ObjOk X.prog X.w H s.heap dd (.xd fs))
  obtain ⟨od, ho, _⟩ := lookIn_ns ns
  have J : PySem.W.InstAt s.heap a oe D (some od) := ⟨ge, hz.1, (by unfold PySem.W.notCls; rw [hv] <;> rfl), (by rw [hz.2]; exact ho)⟩
  have Z := PySem.W.kitx_exc (x := a) (ox := oe) (od := some od) T.cl T.xf.ga T.xf.gg T.xf.exC T.ha T.hn T.ht T.hm
  exact PySem.W.kia_one Z I.kIn J e (fun z => by cases z) fun tk => ⟨.bl b, H, I.kept (t' := tk) fun _ _ z => z, rfl, q⟩

/-! #### values of other kinds are no instances -/
def kdAll : List Kd := [.non, .bl, .int, .str, .lst, .tup, .dct]
def KNot (K : PySem.W.Frag) (C : Addr) : Prop := ∀ k : Kd, PySem.W.kitOne K (.type k.nm) (.ref C) = some false
def knB (K : PySem.W.Frag) (C : Addr) : Bool := kdAll.all fun k => decide (PySem.W.kitOne K (.type k.nm) (.ref C) = some false)
theorem knB_ok {K : PySem.W.Frag} {C : Addr} (h : knB K C = true) : KNot K C := fun k => of_decide_eq_true (List.all_eq_true.mp h k (by cases k <;> simp [kdAll]))
theorem g_isiKd {K : PySem.W.Frag} {H : Hp} {Q : VK} {x : V} {k : Kd} {C : Addr} (h : KdV K H x k) (n : KNot K C) (q : Q (.bl false) H) : rIsi K [x, .ref C] H Q := ⟨x, .ref C, _, _, false, rfl, .own C, h.ty, n k, q⟩
/-! #### calls in a try's body -/
def tMethS (C : Addr) (m : Str) (sp : Sp) (E : L2.St → XK) (ta : TE) (t : TA) : TE := fun σ H Q => ta σ H fun x H1 => insR C m x H1 (t σ H1 fun vs H2 => sp (x :: vs) H2 Q (E σ))
section
variable {X : Cx} {x m : Str} {k : Nat} {ps : List Str} {sp : Sp} {C : Addr} {W : WX} {p pos apos : Pos} {e o : Expr} {es : List Expr} {ta : TE} {t : TA}
theorem pe_dfS (D : DefOk X.prog X.w X.K X.mg X.base x k ps sp) (hr : Room k X.A) (tk : L2N.Takes X W) (ha : PA X (e :: es) t) (hg : Gl X x := by rfl) (hdb : (x == ("__debug__" : Str)) = false := by decide)
    (hs : starEach (e :: es) X.env = (false, eval e X.env) :: starEach es X.env := by rfl) (hp : (backTo pos (starEach es X.env)).any (·.1) = false := by rfl) : PE X (.Call (.Name x p) (e :: es) [] pos) (tCallS sp (WE W) t) :=
  D.elim fun _ D => D.elim fun _ D => pe_callS D.1 hr hg D.2.1 D.2.2.1 D.2.2.2 (fun σ => L2N.passAt tk σ) ha hdb hs hp
theorem pe_mthS {pl : Sem Bool} (D : MthOk X.prog X.w X.K X.mg X.base C m k ps sp) (hr : Room k X.A) (tk : L2N.Takes X W) (ho : PE X o ta) (ha : PA X (e :: es) t)
    (hst : starEach (e :: es) X.env = (false, eval e X.env) :: starEach es X.env := by rfl) (hpl : (backTo pos (starEach es X.env)).any (·.1) = false := by rfl)
    (ht : eval (.Call (.Attribute o m apos) (e :: es) [] pos) X.env = (do
      let ov ← eval o X.env
      standAt apos.atName
      let (f, first) ← holding [ov] (getMethod ov m pl)
      callWith pos f first (backTo pos (starEach (e :: es) X.env)) (backToKw pos (keywordEach [] X.env))) := by rfl) :
    PE X (.Call (.Attribute o m apos) (e :: es) [] pos) (tMethS C m sp (WE W) ta t) := by
  obtain ⟨f, fd, F, hm, hb, hc⟩ := D
  constructor
  intro pins s σ H Q I h
  have run := ho.run pins s σ H _ I h
  refine PySem.W.methodCall_KW (pl := pl) (thn run ?_) ht
  rintro u s1 ⟨y, H1, I1, ry, a, dx, fs, rfl, ea, l, q⟩
  cases (show u = Value.ref a from ry)
  apply getmeth_ok I1 ea hc hm l
  have go := ha.run pos pins s1 σ H1 _ I1 q
  refine PySem.W.callWith_K (h₀ := X.base) (first := [.ref a]) I.ok.mod.kin hm.kp (thn go ?_) hst hpl
  rintro us s2 ⟨vs, H2, I2, r, q2⟩
  exact ⟨I2.kIn, run_fnS (vs := .ref a :: vs) (us := .ref a :: us) F hr hb (L2N.passAt tk σ) I2 (.cons rfl r) q2⟩
end
/-! #### try .. except .. as -/
def tTryAs (K : PySem.W.Frag) (c : Value) (i : Nat) (tb : WX → TS) (ts : Addr → Value → Option Addr → TS) (Wout : WX) : TS := fun D σ H => tb (wAs K c i ts Wout D) D σ H
def tTryOnly (K : PySem.W.Frag) (c : Value) (tb : WX → TS) (ts : Addr → Value → Option Addr → TS) (Wout : WX) : TS := fun D σ H => tb (wMany K Wout D [(c, ts)]) D σ H
section
variable {X : Cx} {K : PySem.W.Frag} {x n : Str} {c : Value} {i : Nat} {body suite : List Stmt} {b₀ : Stmt} {np pos pos' : Pos} {tb : WX → TS} {ts : Addr → Value → Option Addr → TS} {Wout : WX}
theorem ps_tryAs (hK : X.K = K) (hs : X.stack = X.env :: X.outer) (hf : X.env.frame = some X.env.locals) (hN : X.N.Nodup) (hi : X.N[i]? = some n) (hln : X.env.kindOf n = some .local) (hc : Names X x c) (tk : L2N.Takes X Wout)
    (hb : ∀ (W : WX) (pn : List (Addr × Obj)) (xe : Value → Shared → Prop), L2N.Takes (X.tr pn xe) W → PassesOwn (model X.prog X.w) X.A X.env xe → PSs (X.tr pn xe) body (tb W))
    (hsu : ∀ (a : Addr) (oe : Obj) (cls : Value) (d : Option Addr) (pn : List (Addr × Obj)), L2N.Zn cls d oe → (∃ vs, oe.data = .fields vs) → PSs (X.suite a ((a, oe) :: pn)) (b₀ :: suite) (ts a cls d)) :
    PS X (.Try body [.ExceptHandler (some (.Name x np)) (some n) (b₀ :: suite) pos'] [] [] pos) (tTryAs K c i tb ts Wout) := by
  subst hK
  exact L2N.ps_try_as hs hf hN hi hln hc tk hb hsu
theorem ps_tryOnly (hK : X.K = K) (hs : X.stack = X.env :: X.outer) (hf : X.env.frame = some X.env.locals) (hc : Names X x c) (tk : L2N.Takes X Wout)
    (hb : ∀ (W : WX) (pn : List (Addr × Obj)) (xe : Value → Shared → Prop), L2N.Takes (X.tr pn xe) W → PassesOwn (model X.prog X.w) X.A X.env xe → PSs (X.tr pn xe) body (tb W))
    (hsu : ∀ (a : Addr) (oe : Obj) (cls : Value) (d : Option Addr) (pn : List (Addr × Obj)), L2N.Zn cls d oe → (∃ vs, oe.data = .fields vs) → PSs (X.suite a ((a, oe) :: pn)) (b₀ :: suite) (ts a cls d)) :
    PS X (.Try body [.ExceptHandler (some (.Name x np)) none (b₀ :: suite) pos'] [] [] pos) (tTryOnly K c tb ts Wout) := by
  subst hK
  exact L2N.ps_try_many hs hf tk hb (.cons hc hsu .nil)
end
section
variable {K : PySem.W.Frag} {σ : L2.St} {H : Hp} {Q : VK} {C D a dd : Addr} {f : Str} {W Wout : WX} {ta te : TE} {t tA : TA} {v : V} {N : L2.St → Hp → Prop} {R : VK} {Bk Ct : L2.St → Hp → Prop} {c : Value} {i : Nat} {tb : WX → TS} {ts : Addr → Value → Option Addr → TS} {m : Str} {sp : Sp} {E : L2.St → XK} {cls : Value} {d : Option Addr} {b : Bool} {fs : List (Str × V)}
theorem g_try (q : tb (wAs K c i ts Wout ⟨N, R, Bk, Ct⟩) ⟨N, R, Bk, Ct⟩ σ H) : tTryAs K c i tb ts Wout ⟨N, R, Bk, Ct⟩ σ H := q
theorem g_tryO (q : tb (wMany K Wout ⟨N, R, Bk, Ct⟩ [(c, ts)]) ⟨N, R, Bk, Ct⟩ σ H) : tTryOnly K c tb ts Wout ⟨N, R, Bk, Ct⟩ σ H := q
theorem g_methS (q : ta σ H fun x H1 => insR C m x H1 (t σ H1 fun vs H2 => sp (x :: vs) H2 Q (E σ))) : tMethS C m sp E ta t σ H Q := q
theorem g_callS (q : tA σ H fun vs H1 => sp vs H1 Q (E σ)) : tCallS sp E tA σ H Q := q
theorem g_caught (e : PySem.W.exmOne K (.ref C) c = some true) (q : ∀ a, H a = none → ts a (.ref C) d ⟨fun σ' H' => N (σ'.set i none) H', R, fun σ' H' => Bk (σ'.set i none) H', fun σ' H' => Ct (σ'.set i none) H'⟩ (σ.set i (some (.ref a))) H) :
    WE (wAs K c i ts Wout ⟨N, R, Bk, Ct⟩) σ (.ref C) d H := ⟨true, e, fun _ => q, fun z => Bool.noConfusion z⟩
theorem g_missed (e : PySem.W.exmOne K (.ref C) c = some false) (q : Wout (.ref C) d σ H) : WE (wAs K c i ts Wout ⟨N, R, Bk, Ct⟩) σ (.ref C) d H := ⟨false, e, fun z => Bool.noConfusion z, fun _ => q⟩
def xfR (a : Addr) (cls : Value) (d : Option Addr) (C : Addr) (f : Str) (Q : VK) (x : V) (H1 : Hp) : Prop := x = .ref a ∧ cls = .ref C ∧ ∃ (dd : Addr) (fs : List (Str × V)) (v : V), d = some dd ∧ H1 dd = some (.xd fs) ∧ fs.lookup f = some v ∧ Q v H1
theorem g_xf (q : te σ H (xfR a cls d C f Q)) : tXf a cls d C f te σ H Q := q
theorem g_xfR (h : H dd = some (.xd fs)) (l : fs.lookup f = some v) (q : Q v H) : xfR a (.ref C) (some dd) C f Q (.ref a) H := ⟨rfl, rfl, dd, fs, v, rfl, h, l, q⟩
theorem g_isX (h : H dd = some (.xd fs)) (e : PySem.W.kitOne K (.ref D) (.ref C) = some b) (q : Q (.bl b) H) : rIsX K D a (.ref D) (some dd) [.ref a, .ref C] H Q := ⟨C, dd, fs, b, rfl, rfl, rfl, h, e, q⟩
end
end SH
end

section
namespace SH
open PySem PySem.Spec PyProof.Rows L2
/-! ### defs that show lists as texts: called where no such showing is under way -/
structure FnG (P : Program) (w : World) (K : PySem.W.Frag) (mg : Str → Option Value) (base : Heap) (CX : CXT) (k : Nat) (f : Addr) (fd : FuncData) (ps : List Str) (sp : Sp) : Prop where
  len : ∀ vs H Q E, sp vs H Q E → vs.length = ps.length
  run : ∀ (A : Around) (outer : List Env) (s : Shared) (H : Hp) (args : Args) (us : List Value) (vs : List V) (Q : VK) (E : XK), A.guards = some [] → Room k A → Env0 P w K mg base A outer s H →
    BindsTo s fd args (ps.zip us) → Vals vs us → sp vs H Q E → codeAny (model P w) A (.call (.ref f) args) (CR CX outer P w H s Q E) s
def DefG (P : Program) (w : World) (K : PySem.W.Frag) (mg : Str → Option Value) (base : Heap) (x : Str) (k : Nat) (ps : List Str) (sp : Sp) : Prop :=
  ∃ f fd, FnG P w K mg base (L2N.CX P w) k f fd ps sp ∧ mg x = some (.ref f) ∧ PySem.W.keepIn K (.ref f) = true ∧ Binds K fd ps [] ∧ ∃ oc od osl, K.lookup f = some ⟨oc, od, .func fd, osl⟩
section
variable {P : Program} {w : World} {K : PySem.W.Frag} {mg : Str → Option Value} {base : Heap} {x : Str} {st : Stmt} {N ps : List Str} {k : Nat} {sp : Sp}
theorem TopD.okG (T : TopD K mg x st) (S : FnScope N ps (defScope st))
    (hb : ∀ (kV doc pm : Value) (an : Option Addr) (cdv ct : Value) (us : List Value), us.length = ps.length → bindArgs (PySem.W.fnOf x x (defArgs st) (defBody st) (defScope st) .none kV doc pm an cdv ct) ⟨us, []⟩ = pure (ps.zip us))
    (len : ∀ vs H Q E, sp vs H Q E → vs.length = ps.length)
    (hbody : ∀ (f : Addr) (cdv : Value) (A : Around) (outer : List Env) (s : Shared) (H : Hp) (vs : List V) (Q : VK) (E : XK), (A.deeper (envOfC x (defScope st) s.heap.objs.size f cdv)).guards = some [] → Room k (A.deeper (envOfC x (defScope st) s.heap.objs.size f cdv)) → sp vs H Q E →
      ∃ t, PSs (cxOf (L2N.CX P w) P w K mg base N x (defScope st) f cdv A outer s H E) (defBody st) t ∧ t { nx := fun _ H' => Q .non H', rt := Q } (start N vs) H) : DefG P w K mg base x (k + 1) ps sp := by
  obtain ⟨f, fd, F, hm⟩ := T
  have hkp := F.kp
  have hbn := F.bindsN hb
  obtain ⟨oc, od, dV, kV, doc, pm, an, cdv, ct, osl, rfl, lk, hcd, _, _⟩ := F.ex
  refine ⟨f, _, ⟨len, ?_⟩, hm, hkp, hbn, _, _, _, lk⟩
  intro A outer s H args us vs Q E hg hr e0 hbd rv hsp
  obtain ⟨t, ht, hq⟩ := hbody f cdv A outer s H vs Q E hg (hr.deeper _) hsp
  have old : ∀ b o, base.get? b = some o → s.heap.get? b = some o := fun b o e => (e0.bs b o e).1
  have kin : K.In s.heap := e0.mod.kin.keeps old
  have kinds : ∀ y ∈ ps.zip us, (defScope st).names.lookup y.1 = some .local ∨ ((defScope st).names.lookup y.1 = some .cell ∧ ((cellsFrom (s.heap.objs.size + 1) (defScope st).names []).lookup y.1).isSome = true) := by
    intro y hy
    have hz := S.par y.1 (List.of_mem_zip (show (y.1, y.2) ∈ ps.zip us from hy)).1
    exact hz.elim Or.inl fun z => Or.inr ⟨z, PySem.W.cellsFrom_some _ _ _ (Or.inl z)⟩
  apply codeAny_call_function hr.depth (kin _ _ lk) rfl S.co S.gen rfl (PySem.W.codeRec_of kin hcd)
  apply hbd
  apply wpAny_newFunctionEnv_cells S.kind kinds
  intro env he s1 x1
  subst he
  have I : Inv (cxOf (L2N.CX P w) P w K mg base N x (defScope st) f cdv A outer s H E) [] (start N vs) H s1 := inv_start S hr.hd e0 (len _ _ _ _ hsp) rv x1
  constructor
  · exact (e0.mod.nolimit.keeps old).keeps x1.toInCall.keep
  · apply codeAny_func
    apply wpAny_mono (ht.run [] s1 (start N vs) H _ I hq) ?_ (fun _ _ z => z)
    intro fl s' z
    cases fl with
    | brk => exact z.elim fun _ z => z.elim fun _ z => z.2.elim
    | cont => exact z.elim fun _ z => z.elim fun _ z => z.2.elim
    | next =>
      obtain ⟨σ', H', J, q⟩ := z
      exact ⟨V.non, H', J.os, J.bare, J.base, J.hok, rfl, q⟩
    | ret u =>
      obtain ⟨v, σ', H', J, r, q⟩ := z
      exact ⟨v, H', J.os, J.bare, J.base, J.hok, r, q⟩
end
section
variable {X : Cx} {x : Str} {k : Nat} {ps : List Str} {sp : Sp} {E : XK} {p pos : Pos} {e : Expr} {es : List Expr} {t : TA}
theorem pe_dfG (D : DefG X.prog X.w X.K X.mg X.base x k ps sp) (gd : X.A.guards = some []) (hr : Room k X.A) (hx : Passes (L2N.CX X.prog X.w) X E) (ha : PA X (e :: es) t) (hg : Gl X x := by rfl) (hdb : (x == ("__debug__" : Str)) = false := by decide)
    (hs : starEach (e :: es) X.env = (false, eval e X.env) :: starEach es X.env := by rfl) (hp : (backTo pos (starEach es X.env)).any (·.1) = false := by rfl) : PE X (.Call (.Name x p) (e :: es) [] pos) (tCall sp [] E t) := by
  obtain ⟨f, fd, F, hm, hk, hb, _⟩ := D
  constructor
  intro pins s σ H Q I h
  apply wpAny_Call_Name_kw (ld_glob I hg hm ?_ hdb)
  refine PySem.W.callWith_K (h₀ := X.base) I.ok.mod.kin hk (thn (ha.run pos pins s σ H _ I h) ?_) hs hp
  rintro us s1 ⟨vs, H1, I1, r, q⟩
  refine ⟨I1.kIn, ?_⟩
  rw [List.append_nil] at q
  have hl : us.length = ps.length := by
    rw [← r.length]
    exact F.len _ _ _ _ q
  have bd := hb s1 us I1.kIn (by rw [List.append_nil]; exact hl)
  rw [List.append_nil] at bd
  have run := F.run X.A X.stack s1 H1 ⟨us, []⟩ us vs Q E gd hr I1.env0 bd r q
  refine wpAny_call (codeAny_mono run ?_)
  intro res s2 z
  match res, z with
  | .error er, z => exact hx pins σ H1 s1 er s2 I1 z
  | .ok (.ret u), z => exact I1.after z
  | .ok .next, z => exact z.elim
  | .ok .brk, z => exact z.elim
  | .ok .cont, z => exact z.elim
/-! #### repr of lists and tuples -/
/-- data small enough to be shown -/
structure Shw (d : PyData) (n k : Nat) : Prop where
  lay : PyData.canLay0 d = true
  sht : PyData.intsShort 13 d = true
  shw : PyData.showable d = true
  nod : PyData.hasDict d = false
  wgt : PyData.weight d ≤ n
  dep : PyData.depth d ≤ k
structure ShwL (ds : List PyData) (n k : Nat) : Prop where
  lay : PyData.canLayAll0 ds = true
  sht : PyData.intsShortAll 13 ds = true
  shw : PyData.showableAll ds = true
  nod : PyData.hasDictAll ds = false
  wgt : PyData.weightAll ds ≤ n
  dep : PyData.depthAll ds ≤ k
theorem Shw.mono {d : PyData} {n m k j : Nat} (h : Shw d n k) (a : n ≤ m) (b : k ≤ j) : Shw d m j := ⟨h.lay, h.sht, h.shw, h.nod, Nat.le_trans h.wgt a, Nat.le_trans h.dep b⟩
theorem ShwL.mono {d : List PyData} {n m k j : Nat} (h : ShwL d n k) (a : n ≤ m) (b : k ≤ j) : ShwL d m j := ⟨h.lay, h.sht, h.shw, h.nod, Nat.le_trans h.wgt a, Nat.le_trans h.dep b⟩
theorem ShwL.nil : ShwL [] 0 0 := ⟨rfl, rfl, rfl, rfl, Nat.le_refl _, Nat.le_refl _⟩
theorem ShwL.cons {d : PyData} {ds : List PyData} {n m k : Nat} (h : Shw d n k) (t : ShwL ds m k) : ShwL (d :: ds) (n + 1 + m) k where
  lay := by
    show (PyData.canLay0 d && PyData.canLayAll0 ds) = true
    rw [h.lay, t.lay]; rfl
  sht := by
    show (PyData.intsShort 13 d && PyData.intsShortAll 13 ds) = true
    rw [h.sht, t.sht]; rfl
  shw := by
    show (PyData.showable d && PyData.showableAll ds) = true
    rw [h.shw, t.shw]; rfl
  nod := by
    show (PyData.hasDict d || PyData.hasDictAll ds) = false
    rw [h.nod, t.nod]; rfl
  wgt := by
    show PyData.weight d + 1 + PyData.weightAll ds ≤ _
    have := h.wgt; have := t.wgt; omega
  dep := by
    show max (PyData.depth d) (PyData.depthAll ds) ≤ k
    have := h.dep; have := t.dep; omega
theorem ShwL.lst {ds : List PyData} {n k : Nat} (h : ShwL ds n k) : Shw (.list ds) n (k + 1) := ⟨h.lay, h.sht, h.shw, h.nod, h.wgt, by show PyData.depthAll ds + 1 ≤ _; have := h.dep; omega⟩
theorem ShwL.tup {ds : List PyData} {n k : Nat} (h : ShwL ds n k) : Shw (.tuple ds) n (k + 1) := ⟨h.lay, h.sht, h.shw, h.nod, h.wgt, by show PyData.depthAll ds + 1 ≤ _; have := h.dep; omega⟩
theorem Shw.bool (b : Bool) : Shw (.bool b) 0 0 := ⟨rfl, rfl, rfl, rfl, Nat.le_refl _, Nat.le_refl _⟩
theorem str_short {s : String} {k : Nat} (h : s.length ≤ k) : (Str.ofString s).length ≤ k := by rw [PySem.ofString_length]; exact h
theorem Shw.int {i : Int} (h : i.natAbs < 1000000000000) : Shw (.int i) 40 0 where
  lay := rfl
  sht := by
    show decide (_ ≤ 13) = true
    refine decide_eq_true ?_
    exact str_short (int_text_length_le10 (k := 12) (by decide) h)
  shw := by
    show decide (i.natAbs.log2 < 1920) = true
    refine decide_eq_true ?_
    by_cases h0 : i.natAbs = 0
    · rw [h0]; decide
    · have : i.natAbs.log2 < 40 := (Nat.log2_lt h0).mpr (by omega)
      omega
  nod := rfl
  wgt := by
    show (if i == 0 then 0 else i.natAbs.log2 + 1) ≤ 40
    split
    · omega
    · rename_i h0
      have h1 : i ≠ 0 := by simpa using h0
      have : i.natAbs.log2 < 40 := (Nat.log2_lt (by omega)).mpr (by omega)
      omega
  dep := Nat.le_refl _
/-- repr(x), x a list or a tuple of data -/
def rRepr (K : PySem.W.Frag) : List V → Hp → VK → Prop := fun xs H Q => ∃ (a : Addr) (d : PyData), xs = [.ref a] ∧ Dp K H (.ref a) d ∧ Shw d 1000000 60 ∧ Q (.str d.shown) H
theorem call_reprG {K : PySem.W.Frag} (hK : X.K = K) (gd : X.A.guards = some []) (hu : X.A.units + 64 < cLine) : CallR X (.builtin "repr") (rRepr K) := by
  subst hK
  intro pins s σ H xs us Q I r h
  obtain ⟨a, d, rfl, hd, sh, q⟩ := h
  cases r with
  | cons r1 r2 =>
    cases r2
    cases (show _ = Value.ref a from r1)
    obtain ⟨as, rd⟩ := Dp.reads I d _ _ hd rfl
    have fits : d.shown.length ≤ sizeLine := by
      have e : PyData.layable0 d = true := by
        show (PyData.canLay0 d && decide (PyData.depth d ≤ 64) && decide (PyData.weight d ≤ 2 ^ 20)) = true
        have h1 := sh.dep
        have h2 := sh.wgt
        rw [sh.lay, decide_eq_true (show PyData.depth d ≤ 64 by omega), decide_eq_true (show PyData.weight d ≤ 2 ^ 20 by omega)]
        rfl
      have z := shown_le13 e sh.sht
      rw [PySem.sizeLine_eq]
      omega
    have dp := sh.dep
    exact PySem.repr_of_reads' rd sh.shw (fun z => by rw [sh.nod] at z; cases z) gd (by omega) (fun _ _ e => e) (fun h' u tk hk => ⟨.str d.shown, H, I.kept (t' := tk) hk, ⟨u, rfl⟩, q⟩) fits
theorem g_repr {K : PySem.W.Frag} {H : Hp} {Q : VK} {a : Addr} {d : PyData} (h : Dp K H (.ref a) d) (sh : Shw d 1000000 60) (q : Q (.str d.shown) H) : rRepr K [.ref a] H Q := ⟨a, d, rfl, h, sh, q⟩
end
/-! #### the end: a law whose def shows lists -/
section
theorem law_callG {P : Program} {w : World} {K : PySem.W.Frag} {mg mb : Str → Option Value} {CX : CXT} {k : Nat} {fa a : Addr} {fd : FuncData} {x : Str} {sp : Sp} {s₁ : Shared} {vs : List Value} {ns : List Int}
    (KX : K.In s₁.heap) (hns : s₁.heap.Ns mainGlobals mg) (hb : s₁.heap.Ns builtinsNs mb) (hbb : ∀ x : Str, x ≠ "__name__" → mb x = bootBuiltins x) (hlim : s₁.heap.NoLimit) (hg : s₁.gens = #[])
    (ha : s₁.heap.get? a = some { cls := .type "list", data := .seq vs.toArray }) (hi : IntsAre vs ns) (hl : ns.length ≤ sizeLine) (hr : Room k callerA)
    (F : ∀ base : Heap, K.In base → base.Ns mainGlobals mg → FnG P w K mg base CX k fa fd [x] sp) (hbind : ∀ (s : Shared) (u : Value), BindsTo s fd ⟨[u], []⟩ [(x, u)])
    (hsp : ∀ H : Hp, Only H → SqL K H a (ns.map V.int) → sp [.ref a] H (fun v _ => v = .bl true) fun _ _ _ => False)
    (hCX : ∀ H e s', CX [] H s₁ (fun _ _ _ => False) e s' → False) :
    codeAny (model P w) callerA (.call (.ref fa) ⟨[.ref a], []⟩) (fun r s' => r = .ok (.ret (.bool true)) ∧ OldK s₁.heap s'.heap ∧ s'.os = s₁.os ∧ AllBare s'.gens) s₁ := by
  classical
  -- what is tracked at the start: the script, where it is not the module's own
  obtain ⟨H, hH⟩ : ∃ H : Hp, H = fun b => if b = a ∧ K.lookup a = none then some (.frz { cls := .type "list", data := .seq vs.toArray } (.lst (ns.map V.int))) else none := ⟨_, rfl⟩
  have at_ : ∀ b u, H b = some u → b = a ∧ K.lookup a = none ∧ u = .frz { cls := .type "list", data := .seq vs.toArray } (.lst (ns.map V.int)) := by
    intro b u e
    rw [hH] at e
    by_cases c : b = a ∧ K.lookup a = none
    · have e' := (if_pos c).symm.trans e
      cases e'
      exact ⟨c.1, c.2, rfl⟩
    · have e' := (if_neg c).symm.trans e
      cases e'
  have only : Only H := by
    intro b
    rcases h : H b with _ | u
    · exact Or.inl rfl
    · obtain ⟨_, _, rfl⟩ := at_ b u h
      exact Or.inr ⟨_, _, rfl⟩
  have nums := vals_ints hi
  have many := hi.length
  have seq : SqL K H a (ns.map V.int) := by
    rcases h : K.lookup a with _ | o
    · refine .inl (.inr ⟨{ cls := .type "list", data := .seq vs.toArray }, ?_⟩)
      rw [hH]
      exact if_pos ⟨rfl, h⟩
    · have e := (KX a o h).symm.trans ha
      cases e
      exact .inr ⟨_, vs.toArray, _, h, rfl, rfl, rfl, by rw [List.size_toArray, many]; exact hl, by simpa using nums⟩
  have hok : HOk P w H s₁.heap := by
    intro b u e
    obtain ⟨rfl, _, rfl⟩ := at_ b u e
    exact ⟨ha, by rw [List.length_map]; exact hl, vs, _, nums, ha⟩
  have keep : ∀ {b o}, s₁.heap.get? b = some o → H b = none → (hidT s₁.heap H).get? b = some o := fun e n => hidT_get e n
  have noDict : ∀ {b : Addr} {o : Obj} {es : Array DictEntry} {ep : Nat}, s₁.heap.get? b = some o → o.data = .dict es ep → H b = none := by
    intro b o es ep e d
    rcases h : H b with _ | u
    · rfl
    · obtain ⟨rfl, _, _⟩ := at_ b u h
      cases ha.symm.trans e
      cases (show Data.seq vs.toArray _ = Data.dict es ep from d)
  have nsB : ∀ {b m}, s₁.heap.Ns b m → (hidT s₁.heap H).Ns b m := by
    rintro b m ⟨o, es, ep, e, d, r⟩
    exact ⟨o, es, ep, keep e (noDict e d), d, r⟩
  have kinB : K.In (hidT s₁.heap H) := by
    intro b o e
    apply keep (KX b o e)
    rcases h : H b with _ | u
    · rfl
    · obtain ⟨rfl, n, _⟩ := at_ b u h
      cases n.symm.trans e
  obtain ⟨mc, lim1, lim2⟩ := hlim
  have md : Mod K mg (hidT s₁.heap H) := ⟨kinB, nsB hns, ⟨mb, nsB hb, hbb⟩, ⟨mc, nsB lim1, lim2⟩⟩
  have e0 : Env0 P w K mg (hidT s₁.heap H) callerA [] s₁ H := ⟨rfl, md, fun b o e => of_hidT e, Nat.le_of_eq (hidT_size _ _), trivial, fun b z => (by cases z), hok, .of_eq hg⟩
  have run := (F _ kinB (nsB hns)).run callerA [] s₁ H ⟨[.ref a], []⟩ [.ref a] [.ref a] _ _ rfl hr e0 (hbind s₁ (.ref a)) (.cons rfl .nil) (hsp H only seq)
  refine codeAny_mono run ?_
  intro r s' z
  match r, z with
  | .error e, z => exact (hCX H e s' z).elim
  | .ok .next, z => exact z.elim
  | .ok .brk, z => exact z.elim
  | .ok .cont, z => exact z.elim
  | .ok (.ret u), z =>
    obtain ⟨v, H', os, bare, un, hok', rv, q⟩ := z
    cases (show v = .bl true from q)
    cases (show u = Value.bool true from rv)
    refine ⟨rfl, OldK.of_keep ?_, os, bare⟩
    intro b o e
    rcases h : H b with _ | u
    · exact un.keep b o e h (fun z => by cases z) (fun z => by cases z)
    · obtain ⟨rfl, _, rfl⟩ := at_ b u h
      have z1 := (hok b _ h).1
      have z2 := (hok' b _ (un.frzs b _ _ h)).1
      cases z1.symm.trans e
      exact z2
theorem walk_ofG {l : PySem.W.OpenLaw} {n k : Nat} {q : Program} {loose : List Str} {XP : (Str → Option Value) → Heap → Prop} {YP : World → Heap → Prop} {d : DefRec} {CX : World → CXT} {x : Str}
    (hn : l.most = some n) (hn2 : n ≤ sizeLine) (hdf : d.params.defaults = []) (hr : Room k callerA)
    (F : ∀ (w : World) (mg : Str → Option Value) (fa : Addr) (h : Heap), YP w h → h.Ns mainGlobals mg → mg d.name = some (.ref fa) → ∃ (K : PySem.W.Frag) (fd : FuncData) (sp : Sp), K.In h ∧ (∀ (s : Shared) (u : Value), BindsTo s fd ⟨[u], []⟩ [(x, u)]) ∧
      (∀ (H : Hp) (a : Addr) (ns : List Int), ns.length ≤ n → Only H → SqL K H a (ns.map V.int) → sp [.ref a] H (fun v _ => v = .bl true) fun _ _ _ => False) ∧ ∀ base : Heap, K.In base → base.Ns mainGlobals mg → FnG l.prog w K mg base (CX w) k fa fd [x] sp)
    (hCX : ∀ (w : World) (H : Hp) (s : Shared) (e : Value) (s' : Shared), CX w [] H s (fun _ _ _ => False) e s' → False) : PySem.W.WalkO q loose XP YP l.row.toRowW d [] (fun f vs => PySem.call f vs) := by
  apply Att.attach_call hn hdf
  intro w s₀ s₁ mg mb fa o pm cd doc a vs ns G Y ho hd hcd hmg hobj hints hlen hg
  obtain ⟨K, fd, sp, kin, hb, hsp, hF⟩ := F w mg fa _ Y G.T.g hmg
  apply law_callG kin G.T.g G.T.b G.T.builtins G.T.nolimit hg hobj hints (Nat.le_trans hlen hn2) hr hF hb
  · exact fun H only seq => hsp H a ns hlen only seq
  · exact fun H e s' z => hCX w H s₁ e s' z
end
end SH
end

section
namespace SH
open PySem PySem.Spec PyProof.Rows L2
/-! ### tuples that bear no dict, told as frozen: their methods can be called -/
def TupN (H : Hp) (p : Addr) (xs : List V) : Prop := ∃ o, H p = some (.frz o (.tup xs)) ∧ o.dict = none
section
variable {K : PySem.W.Frag} {S : List Addr} {H H' : Hp} {p : Addr} {xs : List V}
theorem TupN.sq (h : TupN H p xs) : SqT K H p xs := h.elim fun o h => .inl (.inr ⟨o, h.1⟩)
theorem TupN.off (h : TupN H p xs) (o : Off S H H') : TupN H' p xs := h.elim fun u h => ⟨u, o.frzs _ _ _ h.1, h.2⟩
theorem TupN.live (h : TupN H p xs) : ∃ o, H p = some o := h.elim fun u h => ⟨_, h.1⟩
end
/-- tuple(xs), xs a list: the new tuple's object is told -/
def rTupF (K : PySem.W.Frag) : List V → Hp → VK → Prop := fun xs H Q => ∃ (p : Addr) (ys : List V), xs = [.ref p] ∧ SqL K H p ys ∧ ∀ (l : Addr) (o : Obj), H l = none → o.dict = none → Q (.ref l) (upd H l (.frz o (.tup ys)))
theorem c_tupF {X : Cx} {K : PySem.W.Frag} (hK : X.K = K) : CallR X (.type "tuple") (rTupF K) := by
  subst hK
  intro pins s σ H xs us Q I r h
  obtain ⟨p, ys, rfl, hq, q⟩ := h
  obtain ⟨u, rfl, rx⟩ := vals1 r
  cases rx
  obtain ⟨its, rv, pl, hz⟩ := I.list hq
  have many := rv.length
  apply call_tuple_list pl.isList (hsz := by simp only [List.size_toArray]; omega)
  intro h' keep
  have I1 : Inv X pins σ H { s with heap := h' } := I.kept (t' := s.toks) keep
  have new : (h'.push { cls := .type "tuple", data := .seq its.toArray }).get? h'.objs.size = some { cls := .type "tuple", data := .seq its.toArray } := Heap.get?_push_size _ rfl
  have I2 : Inv X pins σ (upd H h'.objs.size (.frz { cls := .type "tuple", data := .seq its.toArray } (.tup ys))) { s with heap := h'.push { cls := .type "tuple", data := .seq its.toArray } } :=
    I1.laid (t' := s.toks) (fun b o e => Heap.get?_push_of_some _ e) (Nat.le_refl _) (show ObjOk X.prog X.w _ _ _ (.frz _ (.tup ys)) from ⟨new, hz, its, rv, IsTup.new _ _⟩)
  exact ⟨.ref h'.objs.size, _, I2, rfl, q _ _ (I1.hok.fresh (Nat.le_refl _)) rfl⟩
/-- t.index(x), t a tuple of ints -/
def tTupIx (to te : TE) : TE := fun σ H Q => to σ H fun x H1 => (∃ p xs, x = .ref p ∧ TupN H1 p xs) ∧ te σ H1 fun y H2 => ∃ (p : Addr) (ns : List Int) (k : Int), x = .ref p ∧ y = .int k ∧ TupN H2 p (ns.map V.int) ∧ k ∈ ns ∧ Q (.int ((ns.idxOf k : Nat) : Int)) H2
theorem items_ints {A : Around} {s : Shared} {k : Int} {t : Tok} : ∀ {vs : List Value} {ns : List Int}, IntsAre vs ns → SeqAt.ItemsEq A s vs ns (.int k t) k
  | _, _, .nil => ⟨rfl, fun j h => by simp at h⟩
  | _, _, .cons n u r => by
    obtain ⟨l, at_⟩ := items_ints (A := A) (s := s) (k := k) (t := t) r
    refine ⟨by simp [l], fun j h1 h2 => ?_⟩
    cases j with
    | zero => exact SeqAt.EqAt.int_int n u k t
    | succ j => exact at_ j (Nat.lt_of_succ_lt_succ h1) (Nat.lt_of_succ_lt_succ h2)
section
variable {X : Cx} {o e : Expr} {to te : TE} {apos cpos : Pos}
theorem pe_tupIx (ho : PE X o to) (he : PE X e te) (hbase : attributeBase o "index" X.env (eval o X.env) = eval o X.env := by rfl)
    (hfew : ((backTo cpos (starEach [e] X.env)).all (fun x => !x.1) && (backToKw cpos (keywordEach [] X.env)).all (fun x => x.1.isSome)
      && decide ([e].length + ([] : List Keyword).length + (if ([] : List Keyword).isEmpty then 0 else 1) < 30)) = true := by rfl)
    (hline : (apos.endLine == cpos.line) = true := by rfl) (hs : starEach [e] X.env = [(false, eval e X.env)] := by rfl) :
    PE X (.Call (.Attribute o "index" apos) [e] [] cpos) (tTupIx to te) := by
  constructor
  intro pins s σ H Q I h
  apply wpAny_Call_method_late hbase hfew hline rfl
  refine thn (ho.run pins s σ H _ I h) ?_
  rintro v s1 ⟨x, H1, I1, r1, ⟨p, xs, rfl, ob, hp, hd⟩, q1⟩
  cases (show v = Value.ref p from r1)
  obtain ⟨hget, _, its, _, tp⟩ := (I1.hok p _ hp : ObjOk X.prog X.w H1 s1.heap p (.frz ob (.tup xs)))
  have ty : s1.TypeIs (.ref p) "tuple" := by
    obtain ⟨o2, g2, c2, _⟩ := tp
    exact ⟨o2, g2, c2⟩
  refine ⟨"tuple", "tuple.index", PySem.F.plainAttrs_tuple, PySem.F.slot_tuple_index, PySem.F.type_tuple_index, ty, ?_, ?_⟩
  · intro a ea
    cases ea
    exact ⟨ob, hget, hd⟩
  · rw [hs]
    apply Calls.callWith_builtin rfl
    apply Calls.evalArgs_plain
    refine Calls.spliced_cons (thn (he.run pins s1 σ H1 _ I1 q1) ?_)
    rintro w1 s2 ⟨y, H2, I2, r2, p2, ns, k, ep, rfl, ht, hk, q2⟩
    cases ep
    obtain ⟨t, rfl⟩ := r2
    apply Calls.spliced_nil
    obtain ⟨its2, rv, pl, _⟩ := I2.tuple (TupN.sq ht)
    exact SeqAt.call_tuple_index pl (items_ints (Vals.ints rv)) hk ⟨.int _, H2, I2.tok _, ⟨_, rfl⟩, q2⟩
end
section
variable {K : PySem.W.Frag} {σ : L2.St} {H : Hp} {Q : VK} {to te : TE} {p : Addr} {ns : List Int} {k : Int} {xs : List V}
def tupIx2 (x : V) (Q : VK) (y : V) (H2 : Hp) : Prop := ∃ (p : Addr) (ns : List Int) (k : Int), x = .ref p ∧ y = .int k ∧ TupN H2 p (ns.map V.int) ∧ k ∈ ns ∧ Q (.int ((ns.idxOf k : Nat) : Int)) H2
def tupIx1 (te : TE) (σ : L2.St) (Q : VK) (x : V) (H1 : Hp) : Prop := (∃ p xs, x = .ref p ∧ TupN H1 p xs) ∧ te σ H1 (tupIx2 x Q)
theorem g_tupIx (q : to σ H (tupIx1 te σ Q)) : tTupIx to te σ H Q := q
theorem g_tupIx1 (h : TupN H p xs) (q : te σ H (tupIx2 (.ref p) Q)) : tupIx1 te σ Q (.ref p) H := ⟨⟨p, xs, rfl, h⟩, q⟩
theorem g_tupIx2 (h : TupN H p (ns.map V.int)) (hk : k ∈ ns) (q : Q (.int ((ns.idxOf k : Nat) : Int)) H) : tupIx2 (.ref p) Q (.int k) H := ⟨p, ns, k, rfl, rfl, h, hk, q⟩
theorem g_tupF (h : SqL K H p xs) (q : ∀ l H', H l = none → TupN H' l xs → Off [] H H' → Q (.ref l) H') : rTupF K [.ref p] H Q :=
  ⟨p, xs, rfl, h, fun l o hl hd => q l _ hl ⟨o, upd_same, hd⟩ (.new hl)⟩
end
end SH
end

section
namespace SH
open PySem PySem.Spec PyProof.Rows L2
/-! ### enumerate(t), t a tuple -/
def IteT (K : PySem.W.Frag) (a : Addr) : It :=
  ⟨fun i H => ∃ (xs : List V) (x : V), SqT K H a xs ∧ xs[i]? = some x, fun i H v H' => ∃ T x, v = .ref T ∧ H T = none ∧ H' = upd H T (.tup [.int (i : Nat), x]) ∧ ∀ xs, SqT K H a xs → xs[i]? = some x, fun i H => ∃ xs : List V, SqT K H a xs ∧ xs.length ≤ i⟩
set_option maxHeartbeats 1000000 in
theorem meets_enum1 {v : Value} {o : Obj} {H : Heap → Prop} (B : Begins v o H) :
    Meets (Builtin.«enumerate.__new__» ⟨[.type "enumerate", v], []⟩) (fun _ R s => H s.heap ∧ R (.ok (.ret (.ref (s.heap.push o).objs.size))) { s with heap := (s.heap.push o).push { cls := .type "enumerate", data := .fields #[.none, .bool false, .ref s.heap.objs.size, rawInt 0, .none, .none] } }) := by
  apply Meets.of_wp
  intro prog w A R s hh
  obtain ⟨hp, g, d, tk, os⟩ := s
  obtain ⟨hv, hr⟩ := hh
  have hsub := sub_enumerate
  have go : ∀ {A' : Around} {E : Value → Shared → Prop} {Q : Value → Shared → Prop}, Q (.ref hp.objs.size) ⟨hp.push o, g, d, tk, os⟩ → wpAny (model prog w) A' (pyIter v) Q E ⟨hp, g, d, tk, os⟩ := fun q => B.iter _ _ _ _ ⟨hp, g, d, tk, os⟩ _ hv q
  wp_walk using go
  refine wpAny_stack_any fun st => wpAny_pure ?_
  split
  · rename_i c _ _ _ _ _
    cases (c == Value.type "enumerate") <;> (wp_walk using go; exact ⟨_, rfl, hr⟩)
  · wp_walk using go
    exact ⟨_, rfl, hr⟩
theorem turn_enumT {P : Program} {w : World} {K : PySem.W.Frag} {elts : List Expr} {kk : Nat} {tpos : Pos} (a e it : Addr) (ne : e ≠ it) (na : e ≠ a) (ni : a ≠ it) :
    Turn P w K (.Tuple elts kk tpos) (IteT K a) [e, it] e (fun i h => (∃ old, IsEnum h e it ((i : Nat) : Int) old) ∧ h.IsTupleIter it a i) where
  mem := by simp
  obj := by
    rintro i h ⟨⟨old, he⟩, o, ho, hc, hd⟩ b hb
    simp only [List.mem_cons, List.not_mem_nil, or_false] at hb
    rcases hb with rfl | rfl
    · exact ⟨_, he, fun v z => nomatch z⟩
    · exact ⟨o, ho, fun v z => by rw [hd] at z; cases z⟩
  keep := by
    rintro i h h' ⟨⟨old, he⟩, hi⟩ k
    exact ⟨⟨old, k e (by simp) _ he⟩, hi.at fun o z => k it (by simp) o z⟩
  item := by
    intro X hP hw hK hc i pins s σ H E I hf st hg
    subst hP hw hK
    obtain ⟨⟨old, he⟩, hit⟩ := st
    obtain ⟨xs, x, hq, hx⟩ := hg
    obtain ⟨its, rv, p, hz⟩ := I.tuple hq
    obtain ⟨u, hu, ru⟩ := rv.get hx
    have le := Heap.lt_size he
    have li : it < s.heap.objs.size := by
      obtain ⟨_, z, _⟩ := hit
      exact Heap.lt_size z
    have D := Draws.tuple (prog := X.prog) (w := X.w) (A := X.A.in1) (I.ok.hd hc) it a ni its.toArray
    have lt : i < its.toArray.size := by
      have := (List.getElem?_eq_some_iff.mp hu).1
      simpa using this
    apply wpAny_pyNext_enum_itemD D he ⟨hit, p⟩ lt ne (by simp [ne, na])
    intro y h' tk hy ho st' hT hsz hk
    have ey : y = u := by
      have z : its.toArray[i]? = some y := hy
      rw [List.getElem?_toArray, hu] at z
      exact (Option.some.inj z).symm
    subst ey
    refine ⟨_, rfl, wpAny_letOwnedTupleGo_enum (s := { s with heap := h', toks := tk + 1 }) ho ?_⟩
    intro h'' he' sb
    have hT2 := (sb.2 _ (Nat.ne_of_gt le)).trans hT
    have ob : ObjOk X.prog X.w (upd H s.heap.objs.size (.tup [.int (i : Nat), x])) h'' s.heap.objs.size (.tup [.int (i : Nat), x]) := by
      refine ⟨by show 2 ≤ sizeLine; decide, [.int i tk, y], .cons ⟨_, rfl⟩ (.cons ru .nil), ⟨_, hT2, rfl, _, rfl⟩⟩
    have still : ∀ b o, b ∉ [e, it] → s.heap.get? b = some o → h''.get? b = some o := by
      intro b o hb z
      simp only [List.mem_cons, List.not_mem_nil, or_false, not_or] at hb
      exact (sb.2 b hb.1).trans (hk b o hb.1 hb.2 z)
    have I1 : Inv X pins σ (upd H s.heap.objs.size (.tup [.int (i : Nat), x])) { s with heap := h'', toks := tk + 1 } := I.turnedNew (ch := [e, it]) still hf (Nat.le_refl _) ob
    refine ⟨.ref s.heap.objs.size, _, I1, rfl, ⟨_, x, rfl, I.hok.fresh (Nat.le_refl _), rfl, fun ys hy => by rw [I.tuple_inj hy hq]; exact hx⟩, ⟨⟨y, ?_⟩, st'.1.at fun o z => (sb.2 it (Ne.symm ne)).trans z⟩, ?_⟩
    · rw [show ((i + 1 : Nat) : Int) = (i : Int) + 1 by omega]
      exact he'
    · intro b hb
      have lb : b < s.heap.objs.size := by
        simp only [List.mem_cons, List.not_mem_nil, or_false] at hb
        rcases hb with rfl | rfl
        · exact le
        · exact li
      rw [upd_ne (Nat.ne_of_lt lb)]
      exact (hf b hb).1
  done := by
    intro X hP hw hK hc i pins s σ H E I hf st hg
    subst hP hw hK
    obtain ⟨⟨old, he⟩, hit⟩ := st
    obtain ⟨xs, hq, hx⟩ := hg
    obtain ⟨its, rv, p, hz⟩ := I.tuple hq
    obtain ⟨f0, f1, f2, f3, f4, f5⟩ := hf it (by simp)
    have hl := rv.length
    have D' : Draws X.prog X.w X.A.in1 it [it, a] i (fun i v => its.toArray[i]? = some v) (fun j h => j = i ∧ h.IsTupleIter it a j ∧ h.IsTuple a its.toArray) :=
      { live := fun j h st => by
          obtain ⟨_, ⟨o, ho, _⟩, _⟩ := st
          exact ⟨o, ho⟩
        frame := fun j h h' st k => ⟨st.1, st.2.1.at fun o z => k it (by simp) o z, st.2.2.at fun o z => k a (by simp) o z⟩
        item := fun j s Q E hj st => by
          have := st.1
          omega
        done := fun s Q E st hE => wpAny_nextOf_tuple_end (I.ok.hd hc) st.2.1 st.2.2 (by simp; omega) hE }
    apply wpAny_pyNext_enum_endD D' he ⟨rfl, hit, p⟩
    intro h' eb
    exact ⟨rfl, I.turned (t' := s.toks) (fun b o hb z => eb b o hb z) f0 f1 f3 f4 f5⟩
  self := by
    rintro A i s Q E ⟨⟨_, he⟩, _⟩ h
    exact wpAny_pyIter_enum he h
def iEnumT (K : PySem.W.Frag) (ta : TA) : TI := fun σ H R => ta σ H fun vs H1 => ∃ a xs, vs = [.ref a] ∧ SqT K H1 a xs ∧ R (IteT K a) H1
theorem pi_enumT {X : Cx} {K : PySem.W.Frag} {e : Expr} {ta : TA} {p pos tpos : Pos} {elts : List Expr} {kk : Nat} (hK : X.K = K) (hg : Gl X "enumerate") (hm : X.mg "enumerate" = none) (ha : PA X [e] ta) (hs : starEach [e] X.env = [(false, eval e X.env)] := by rfl) :
    PI X (.Tuple elts kk tpos) (.Call (.Name "enumerate" p) [e] [] pos) (iEnumT K ta) := by
  subst hK
  constructor
  intro pins s σ H R I h
  refine Call_ (ld_blt I hg hm boot_enumerate (PyProof.Rows.callWith_type1 (thn (ha.run pos pins s σ H _ I h) ?_) hs rfl))
  rintro us s1 ⟨vs, H1, I1, r1, a, xs, rfl, hq, q⟩
  obtain ⟨u, rfl, rv⟩ := vals1 r1
  cases rv
  obtain ⟨its, rv, tp, hz⟩ := I1.tuple hq
  have la : a < s1.heap.objs.size := by
    obtain ⟨_, z, _⟩ := tp
    exact Heap.lt_size z
  have B := begins_tuple a its.toArray
  refine callType_new F.called_enumerate (by decide) (F.typeCall_enumerate_1 _) (F.newCall_enumerate_1 _) (fun obj => F.args_object_init_2 obj _) F.entry_enumerate_new (meets_enum1 B) ⟨tp, ?_⟩
  generalize hO : ({ cls := .type "tuple_iterator", data := .fields #[.ref a, .int 0 0] } : Obj) = O
  have z1 : (s1.heap.push O).objs.size = s1.heap.objs.size + 1 := Heap.size_push ..
  show _ ∧ _
  rw [z1]
  have he : IsEnum ((s1.heap.push O).push { cls := .type "enumerate", data := .fields #[.none, .bool false, .ref s1.heap.objs.size, rawInt 0, .none, .none] }) (s1.heap.objs.size + 1) s1.heap.objs.size 0 .none := by
    have z := Heap.get?_push_size (s1.heap.push O) (o := { cls := .type "enumerate", data := .fields #[.none, .bool false, .ref s1.heap.objs.size, rawInt 0, .none, .none] }) rfl
    rw [z1] at z
    exact z
  have hi : ((s1.heap.push O).push { cls := .type "enumerate", data := .fields #[.none, .bool false, .ref s1.heap.objs.size, rawInt 0, .none, .none] }).IsTupleIter s1.heap.objs.size a 0 := by
    refine ⟨O, Heap.get?_push_of_some _ (Heap.get?_push_size _ (by rw [← hO]; rfl)), by rw [← hO], by rw [← hO]; rfl⟩
  refine ⟨⟨_, he, rfl⟩, wpAny_pyIter_enum he ?_⟩
  have I2 := I1.kept (t' := s1.toks) (h' := (s1.heap.push O).push { cls := .type "enumerate", data := .fields #[.none, .bool false, .ref s1.heap.objs.size, rawInt 0, .none, .none] }) fun b o z => Heap.get?_push_of_some _ (Heap.get?_push_of_some _ z)
  refine ⟨s1.heap.objs.size + 1, [s1.heap.objs.size + 1, s1.heap.objs.size], _, _, H1, rfl, I2, turn_enumT a (s1.heap.objs.size + 1) s1.heap.objs.size (Nat.succ_ne_self _) (Nat.ne_of_gt (Nat.lt_succ_of_lt la)) (Nat.ne_of_lt la), ⟨⟨.none, he⟩, hi⟩, ?_, q⟩
  intro b hb
  have lb : s1.heap.objs.size ≤ b := by
    simp only [List.mem_cons, List.not_mem_nil, or_false] at hb
    rcases hb with rfl | rfl
    · exact Nat.le_succ _
    · exact Nat.le_refl _
  exact I1.fpOk lb (I1.hok.fresh lb)
/-- a walk over pairs (i, x) -/
def forE (J : It) (g : TG) (tb : TS) (D : Ends) (σ : L2.St) (H : Hp) : Prop := forJ g tb D σ J H
section
variable {K : PySem.W.Frag} {σ : L2.St} {H : Hp} {tA : TA} {a : Addr} {xs : List V} {N : L2.St → Hp → Prop} {R : VK} {Bk Ct : L2.St → Hp → Prop} {s1 : TS} {gt : TG}
def enT (K : PySem.W.Frag) (gt : TG) (s1 : TS) (D : Ends) (σ : L2.St) (vs : List V) (H1 : Hp) : Prop := ∃ a xs, vs = [.ref a] ∧ SqT K H1 a xs ∧ forJ gt s1 D σ (IteT K a) H1
def enL (K : PySem.W.Frag) (gt : TG) (s1 : TS) (D : Ends) (σ : L2.St) (vs : List V) (H1 : Hp) : Prop := ∃ a xs, vs = [.ref a] ∧ SqL K H1 a xs ∧ forJ gt s1 D σ (Ite K a) H1
theorem g_enT (q : tA σ H (enT K gt s1 ⟨N, R, Bk, Ct⟩ σ)) : tFor (iEnumT K tA) gt s1 ⟨N, R, Bk, Ct⟩ σ H := q
theorem g_enL (q : tA σ H (enL K gt s1 ⟨N, R, Bk, Ct⟩ σ)) : tFor (iEnum K tA) gt s1 ⟨N, R, Bk, Ct⟩ σ H := q
theorem enT_mk (Pv : Nat → L2.St → Hp → Prop) (hx : SqT K H a xs) (h0 : Pv 0 σ H) (hl : ∀ i σ H, i ≤ xs.length → Pv i σ H → SqT K H a xs)
    (hs : ∀ i x T σ H, xs[i]? = some x → Pv i σ H → H T = none → gt (.ref T) σ (upd H T (.tup [.int (i : Nat), x])) fun σ2 H2 => s1 ⟨Pv (i + 1), R, N, Pv (i + 1)⟩ σ2 H2) (hd : ∀ σ H, Pv xs.length σ H → N σ H) : enT K gt s1 ⟨N, R, Bk, Ct⟩ σ [.ref a] H := by
  refine ⟨a, xs, rfl, hx, fun i m σ H => m = xs.length - i ∧ i ≤ xs.length ∧ Pv i σ H, ⟨xs.length, by simp, Nat.zero_le _, h0⟩, ?_⟩
  rintro i m σ H ⟨rfl, hi, p⟩
  have q := hl i σ H hi p
  by_cases c : i < xs.length
  · refine .inr ⟨⟨xs, xs[i], q, List.getElem?_eq_getElem c⟩, Pv (i + 1), fun σ' H' p' => ⟨xs.length - (i + 1), by omega, rfl, c, p'⟩, ?_⟩
    rintro v H' ⟨T, x, rfl, hT, rfl, hx'⟩
    exact hs i x T σ H (hx' xs q) p hT
  · have e : i = xs.length := by omega
    subst e
    exact .inl ⟨⟨xs, q, Nat.le_refl _⟩, hd σ H p⟩
theorem enL_mk (Pv : Nat → L2.St → Hp → Prop) (hx : SqL K H a xs) (h0 : Pv 0 σ H) (hl : ∀ i σ H, i ≤ xs.length → Pv i σ H → SqL K H a xs)
    (hs : ∀ i x T σ H, xs[i]? = some x → Pv i σ H → H T = none → gt (.ref T) σ (upd H T (.tup [.int (i : Nat), x])) fun σ2 H2 => s1 ⟨Pv (i + 1), R, N, Pv (i + 1)⟩ σ2 H2) (hd : ∀ σ H, Pv xs.length σ H → N σ H) : enL K gt s1 ⟨N, R, Bk, Ct⟩ σ [.ref a] H := by
  refine ⟨a, xs, rfl, hx, fun i m σ H => m = xs.length - i ∧ i ≤ xs.length ∧ Pv i σ H, ⟨xs.length, by simp, Nat.zero_le _, h0⟩, ?_⟩
  rintro i m σ H ⟨rfl, hi, p⟩
  have q := hl i σ H hi p
  by_cases c : i < xs.length
  · refine .inr ⟨⟨xs, xs[i], q, List.getElem?_eq_getElem c⟩, Pv (i + 1), fun σ' H' p' => ⟨xs.length - (i + 1), by omega, rfl, c, p'⟩, ?_⟩
    rintro v H' ⟨T, x, rfl, hT, rfl, hx'⟩
    exact hs i x T σ H (hx' xs q) p hT
  · have e : i = xs.length := by omega
    subst e
    exact .inl ⟨⟨xs, q, Nat.le_refl _⟩, hd σ H p⟩
end
end SH
end

section
namespace SH
open PySem PySem.Spec PyProof.Rows L2
theorem Off.mutA {S : List Addr} {H H1 H2 : Hp} {a : Addr} (x : Off S H H1) (o : Off [a] H1 H2) (h : H a = none) : Off S H H2 :=
  ⟨fun b u n e => o.keep b u (by simpa using ne_of_none e h) (x.keep b u n e), fun b u e => o.tups b u (x.tups b u e), fun b u v e => o.frzs b u v (x.frzs b u v e), fun b u e => by
    obtain ⟨o', e'⟩ := x.live b u e
    exact o.live b o' e'⟩
theorem Off.muts {S U : List Addr} {H H1 H2 : Hp} (x : Off S H H1) (o : Off U H1 H2) (h : ∀ u ∈ U, u ∈ S ∨ H u = none) : Off S H H2 :=
  ⟨fun b u n e => o.keep b u (fun z => (h b z).elim n fun hn => by rw [hn] at e; cases e) (x.keep b u n e), fun b u e => o.tups b u (x.tups b u e), fun b u v e => o.frzs b u v (x.frzs b u v e), fun b u e => by
    obtain ⟨o', e'⟩ := x.live b u e
    exact o.live b o' e'⟩
/-! ### calls by names of parameters -/
def DefL (P : Program) (w : World) (K : PySem.W.Frag) (mg : Str → Option Value) (base : Heap) (x : Str) (k : Nat) (ps : List Str) (sp : Sp) : Prop :=
  ∃ f fd, FnOk P w K mg base (L2N.CX P w) k f fd ps sp ∧ mg x = some (.ref f) ∧ PySem.W.keepIn K (.ref f) = true ∧ Binds K fd ps [] ∧ ∃ oc od osl, K.lookup f = some ⟨oc, od, .func fd, osl⟩
section
variable {P : Program} {w : World} {K : PySem.W.Frag} {mg : Str → Option Value} {base : Heap} {x : Str} {st : Stmt} {N ps : List Str} {k : Nat} {sp : Sp}
theorem DefL.ok (D : DefL P w K mg base x k ps sp) : DefOk P w K mg base x k ps sp := by
  obtain ⟨f, fd, h1, h2, h3, h4, _⟩ := D
  exact ⟨f, fd, h1, h2, h3, h4⟩
theorem TopD.okL (T : TopD K mg x st) (S : FnScope N ps (defScope st))
    (hb : ∀ (kV doc pm : Value) (an : Option Addr) (cdv ct : Value) (us : List Value), us.length = ps.length → bindArgs (PySem.W.fnOf x x (defArgs st) (defBody st) (defScope st) .none kV doc pm an cdv ct) ⟨us, []⟩ = pure (ps.zip us))
    (len : ∀ vs H Q E, sp vs H Q E → vs.length = ps.length)
    (hbody : ∀ (f : Addr) (cdv : Value) (A : Around) (outer : List Env) (s : Shared) (H : Hp) (vs : List V) (Q : VK) (E : XK), Room k (A.deeper (envOfC x (defScope st) s.heap.objs.size f cdv)) → sp vs H Q E →
      ∃ t, PSs (cxOf (L2N.CX P w) P w K mg base N x (defScope st) f cdv A outer s H E) (defBody st) t ∧ t { nx := fun _ H' => Q .non H', rt := Q } (start N vs) H) : DefL P w K mg base x (k + 1) ps sp := by
  obtain ⟨f, fd, F, hm⟩ := T
  obtain ⟨oc, od, dV, kV, doc, pm, an, cdv, ct, osl, _, lk, _, _, _⟩ := F.ex
  exact ⟨f, fd, F.ok S len fun cdv A outer s H vs Q E hr h => hbody f cdv A outer s H vs Q E hr h, hm, F.kp, F.bindsN hb, oc, od, osl, lk⟩
end
def kwR (n : Nat) (gV : List V → List V) (sp : Sp) (E : XK) (Q : VK) (zs : List V) (H2 : Hp) : Prop := zs.length = n ∧ sp (gV zs) H2 Q E
def tCallKw (n : Nat) (gV : List V → List V) (sp : Sp) (E : XK) (tk : TA) : TE := fun σ H Q => tk σ H (kwR n gV sp E Q)
theorem pe_dfK0 {X : Cx} {x : Str} {k : Nat} {ps : List Str} {sp : Sp} {E : XK} {st : Stmt} {p pos : Pos} {kws : List Keyword} {tk : TA} {ks : List Str} {g : List Value → List Value} {gV : List V → List V} (D : DefL X.prog X.w X.K X.mg X.base x k ps sp) (T : TopD X.K X.mg x st)
    (hb : ∀ (kV doc pm : Value) (an : Option Addr) (cdv ct : Value) (us : List Value), us.length = ks.length → bindArgs (PySem.W.fnOf x x (defArgs st) (defBody st) (defScope st) .none kV doc pm an cdv ct) ⟨[], ks.zip us⟩ = pure (ps.zip (g us)))
    (hrel : ∀ {vs : List V} {us : List Value}, Vals vs us → vs.length = ks.length → Vals (gV vs) (g us)) (hr : Room k X.A) (hx : Passes (L2N.CX X.prog X.w) X E) (hkw : PK X kws tk) (hg : Gl X x := by rfl)
    (hall : (backToKw pos (keywordEach kws X.env)).all (·.1.isSome) = true := by rfl) (hks : (backToKw pos (keywordEach kws X.env)).filterMap (·.1) = ks := by rfl) (hdb : (x == ("__debug__" : Str)) = false := by decide)
    (hpl : ((backTo pos (starEach [] X.env)).any (·.1) || (backToKw pos (keywordEach kws X.env)).any (·.1.isNone)) = false := by rfl) : PE X (.Call (.Name x p) [] kws pos) (tCallKw ks.length gV sp E tk) := by
  obtain ⟨f, fd, F, hm, hk, _, oc, od, osl, lk⟩ := D
  obtain ⟨f', fd', FD, hm'⟩ := T
  cases hm.symm.trans hm'
  obtain ⟨oc', od', dV, kV, doc, pm, an, cdv, ct, osl', rfl, lk', _, hD, _⟩ := FD.ex
  cases lk.symm.trans lk'
  rcases hD with ⟨_, rfl⟩ | ⟨e, _⟩
  · constructor
    intro pins s σ H Q I h
    apply wpAny_Call_Name_kw (ld_glob I hg hm ?_ hdb)
    apply PySem.W.callWith_KW0 (h₀ := X.base) I.ok.mod.kin hk hall ?_ hpl
    refine thn (hkw.run pos pins s σ H _ I h) ?_
    rintro ws s2 ⟨zs, H2, I2, rz, l, q⟩
    refine ⟨I2.kIn, ?_⟩
    rw [hks]
    have bd := BindsTo.of_eq (s := s2) (hb kV doc pm an cdv ct ws (rz.length.symm.trans l))
    have run := F.run X.A X.stack s2 H2 ⟨[], ks.zip ws⟩ (g ws) (gV zs) Q E hr I2.env0 bd (hrel rz l) q
    refine wpAny_call (codeAny_mono run ?_)
    intro res s3 z
    match res, z with
    | .error er, z => exact hx pins σ H2 s2 er s3 I2 z
    | .ok (.ret u), z => exact I2.after z
    | .ok .next, z => exact z.elim
    | .ok .brk, z => exact z.elim
    | .ok .cont, z => exact z.elim
  · exact absurd rfl e
theorem pi_enumK {X : Cx} {K : PySem.W.Frag} {e : Expr} {ta : TA} {p pos tpos : Pos} {elts : List Expr} {kk : Nat} (hK : X.K = K) (hg : Gl X "enumerate") (hm : X.mg "enumerate" = none) (ha : PA X [e] ta) (hs : starEach [e] X.env = [(false, eval e X.env)] := by rfl) :
    PI X (.Tuple elts kk tpos) (.Call (.Name "enumerate" p) [e] [] pos) (iEnum K ta) := by
  subst hK
  exact pi_enum hg hm ha hs
theorem br_int {c : Prop} [Decidable c] {i j : Int} {σ : L2.St} {H : Hp} {k : VK} (q : k (.int (if c then i else j)) H) : br (decide c) (tC (.int i) σ H k) (tC (.int j) σ H k) :=
  br_d (fun h => by rw [if_pos h] at q; exact q) (fun h => by rw [if_neg h] at q; exact q)
def sw {α : Type} : List α → List α
  | [a, b] => [b, a]
  | l => l
theorem rel_id {vs : List V} {us : List Value} {n : Nat} (r : Vals vs us) (_ : vs.length = n) : Vals (id vs) (id us) := r
theorem rel_sw {vs : List V} {us : List Value} {n : Nat} (r : Vals vs us) (_ : vs.length = n) : Vals (sw vs) (sw us) := by
  match vs, us, r with
  | [], _, .nil => exact .nil
  | [_], _, .cons r .nil => exact .cons r .nil
  | [_, _], _, .cons r (.cons r2 .nil) => exact .cons r2 (.cons r .nil)
  | _ :: _ :: _ :: _, _, .cons r (.cons r2 (.cons r3 t)) => exact .cons r (.cons r2 (.cons r3 t))
section
variable {σ : L2.St} {H : Hp} {Q : VK} {sp : Sp} {E : XK} {tk : TA} {n : Nat} {gV : List V → List V} {zs : List V}
theorem g_kw (q : tk σ H (kwR n gV sp E Q)) : tCallKw n gV sp E tk σ H Q := q
theorem g_kwR (h : zs.length = n) (q : sp (gV zs) H Q E) : kwR n gV sp E Q zs H := ⟨h, q⟩
end
end SH
end

section
namespace SH
open PySem PySem.Spec PyProof.Rows L2
/-! ### own ==, and != by it; methods and makers called by keywords -/
section
variable {M : Model} {prog : Program} {w : World} {A : Around} {E : Value → Shared → Prop} {s : Shared} {K : PySem.W.Frag} {x C f L : Addr} {ox : Obj} {od : Option Obj} {h₀ : Heap} {m : Str → Option Value} {b tb : Value}
theorem ifBound_objNe {args : List Value} {Q : Option Value → Shared → Prop} (X : K.In s.heap) (I : PySem.W.InstAt s.heap x ox C od) (hs : PySem.W.findIn K (.ref C) "__ne__" = some (some (.builtin "object.__ne__")))
    (h : wpAny M A (call (.builtin "object.__ne__") (.ref x :: args)) (fun v => Q (some v)) E s) : wpAny M A (callSpecialIfBound? (.ref x) "__ne__" args) Q E s := by
  simp only [callSpecialIfBound?, bindSpecialIfBound?]
  refine wpAny_holding (wpAny_bind (wpAny_bind (wpAny_bind (I.type.here ((PySem.W.looks_findIn X hs).here ?_)))))
  apply wpAny_bind
  apply wpAny_askSetting
  apply wpAny_ite
  have last : wpAny M A (call (.builtin "object.__ne__") ([.ref x] ++ args) >>= fun v => pure (some v)) Q E s := by
    apply wpAny_bind
    exact wpAny_mono h (fun _ _ z => wpAny_pure z) fun _ _ z => z
  have nb := F.cmp_object.ne.bind (.ref x)
  split
  · apply wpAny_bind
    exact wpAny_of_eq nb (wpAny_pure last)
  · apply wpAny_tryCatch
    apply wpAny_bind
    exact wpAny_of_eq nb (wpAny_pure last)
theorem entry_objNe {Q : Fin → Shared → Prop} (hu : A.units < cLine) (X : K.In s.heap) (I : PySem.W.InstAt s.heap x ox C od) (he : PySem.W.findIn K (.ref C) "__eq__" = some (some (.ref f))) (hf : PySem.W.isFn K (.ref f) = true)
    (h : wpAny (model prog w) A (call (.ref f) [.ref x, b]) (fun v s' => ∃ r, v = .bool r ∧ Q (.done (.ret (.bool (!r)))) s') E s) : wpAny (model prog w) A (Builtin.«object.__ne__» ⟨[.ref x, b], []⟩) Q E s := by
  unfold Builtin.«object.__ne__»
  repeat (first
    | with_reducible refine wpAny_cRoomFor hu ?_
    | (refine wpAny_bind (m := callSpecialIfBound? (.ref x) (Str.ofString "__eq__") [b]) (PySem.W.ifBound_K X I he hf (wpAny_mono h ?_ fun _ _ e => e))
       rintro v s' ⟨r, rfl, hq⟩
       repeat (first | exact hq | exact wpAny_pure hq | exact wpAny_truthy_bool hq | (refine wpAny_bind (m := truthy (.bool _)) (wpAny_truthy_bool ?_)) | wp_step))
    | wp_step)
theorem cmpNe_K {Q : Value → Shared → Prop} (hu : A.units + 1 < cLine) (F0 : Fr h₀ L s.heap m) (X₀ : K.In h₀) (I : PySem.W.InstAt s.heap x ox C od) (hb : PySem.W.Looks (model prog w) s.heap (typeOf b) tb) (hn : PySem.W.notFirst K C tb = true)
    (hne : PySem.W.findIn K (.ref C) "__ne__" = some (some (.builtin "object.__ne__"))) (hm : PySem.W.mroIn K C (.type "object") = some true) (he : PySem.W.findIn K (.ref C) "__eq__" = some (some (.ref f))) (hf : PySem.W.isFn K (.ref f) = true)
    (h : wpAny (model prog w) A.in1 (call (.ref f) [.ref x, b]) (fun v s' => ∃ r, v = .bool r ∧ Q (.bool (!r)) s') E s) : wpAny (model prog w) A (richCompare .NotEq (.ref x) b) Q E s := by
  have X := X₀.keeps F0.keep
  have one : wpAny (model prog w) A (tryCompare (.ref x) "__ne__" b) (fun r s' => ∃ v, r = some v ∧ Q v s') E s := by
    unfold tryCompare
    refine wpAny_bind (ifBound_objNe X I hne ?_)
    refine wpAny_call (codeAny_call_builtin F.cmp_object.ne.plain F.cmpEntry_ne (PySem.W.check_slot F.cmpKind_ne F.cmpSplit_ne (I.type.andThen (PySem.W.looks_mroIn X hm)) (F.cmpArgs_ne _ _) ?_))
    refine entry_objNe hu X I he hf (wpAny_mono h ?_ fun _ _ e => e)
    rintro v s' ⟨r, rfl, hq⟩
    exact ⟨r, rfl, wpAny_pure ⟨_, rfl, hq⟩⟩
  unfold richCompare
  simp only [oneThing_ref]
  refine wpAny_holding (wpAny_bind (wpAny_cRoomFor (Nat.lt_of_succ_lt hu) ?_))
  rw [cmpInfo_NotEq]
  dsimp only
  refine wpAny_bind (I.type.here (wpAny_bind (hb.here ?_)))
  have fin : ∀ rr, wpAny (model prog w) A rr (fun r s' => ∃ v, r = some v ∧ Q v s') E s → True := fun _ _ => trivial
  split
  · rename_i q
    have e : PySem.W.subIn K tb (.ref C) = some false := by
      rcases Bool.or_eq_true_iff.mp hn with e | e
      · rw [beq_iff_eq.mp e] at q; simp at q
      · exact beq_iff_eq.mp e
    refine wpAny_bind ((PySem.W.looks_subIn X e).here ?_)
    simp only [Bool.false_eq_true, if_false]
    refine wpAny_bind (wpAny_mono one ?_ fun _ _ e => e)
    rintro r s' ⟨v, rfl, hq⟩
    exact wpAny_pure hq
  · refine wpAny_bind (wpAny_pure ?_)
    simp only [Bool.false_eq_true, if_false]
    refine wpAny_bind (wpAny_mono one ?_ fun _ _ e => e)
    rintro r s' ⟨v, rfl, hq⟩
    exact wpAny_pure hq
end
/-- what != by an own == asks of the class -/
structure NeOk (K : PySem.W.Frag) (C : Addr) : Prop where
  ne : PySem.W.findIn K (.ref C) "__ne__" = some (some (.builtin "object.__ne__"))
  mo : PySem.W.mroIn K C (.type "object") = some true
def neB (K : PySem.W.Frag) (C : Addr) : Bool := decide (PySem.W.findIn K (.ref C) "__ne__" = some (some (.builtin "object.__ne__"))) && decide (PySem.W.mroIn K C (.type "object") = some true)
theorem neB_ok {K : PySem.W.Frag} {C : Addr} (h : neB K C = true) : NeOk K C := by
  unfold neB at h
  rw [Bool.and_eq_true] at h
  exact ⟨of_decide_eq_true h.1, of_decide_eq_true h.2⟩
/-- the other side: of the same class, or None -/
def Oth (H : Hp) (C : Addr) (y : V) : Prop := y = .non ∨ ∃ b dy gs, y = .ref b ∧ H b = some (.ins C dy gs)
def rOwnE (C : Addr) (sp : Sp) (E : XK) : R2 := fun x y H Q => ∃ a dx fs, x = .ref a ∧ H a = some (.ins C dx fs) ∧ Oth H C y ∧ sp [x, y] H (fun v H' => ∃ b, v = .bl b ∧ Q (.bl b) H') E
def rOwnN (C : Addr) (sp : Sp) (E : XK) : R2 := fun x y H Q => ∃ a dx fs, x = .ref a ∧ H a = some (.ins C dx fs) ∧ Oth H C y ∧ sp [x, y] H (fun v H' => ∃ b, v = .bl b ∧ Q (.bl (!b)) H') E
section
variable {X : Cx} {C : Addr} {k : Nat} {ps : List Str} {sp : Sp} {E : XK}
theorem oth_looks {pins : List (Addr × Obj)} {σ : L2.St} {H : Hp} {s : Shared} {y : V} {u : Value} (I : Inv X pins σ H s) (r : RelV y u) (h : Oth H C y) : ∃ tb, PySem.W.Looks (model X.prog X.w) s.heap (typeOf u) tb ∧ PySem.W.notFirst X.K C tb = true := by
  rcases h with rfl | ⟨b, dy, gs, rfl, hb⟩
  · cases r
    refine ⟨.type "NoneType", PySem.W.Looks.of_pure rfl, ?_⟩
    unfold PySem.W.notFirst
    rw [HN.sub_none]
    simp
  · cases r
    obtain ⟨mB, J', _⟩ := ins_get I.hok hb
    obtain ⟨od', J', _⟩ := J'.look
    exact ⟨.ref C, J'.type, by simp [PySem.W.notFirst]⟩
theorem op_ownE (D : MthOk X.prog X.w X.K X.mg X.base C "__eq__" k ps sp) (hr : Room k X.A) (hx : Passes (L2N.CX X.prog X.w) X E) : OpR X (compareOp .Eq) (rOwnE C sp E) := by
  obtain ⟨f, fd, F, hm, hb, hc⟩ := D
  intro pins s σ H x y v u Q I rx ry h
  obtain ⟨a, dx, fs, rfl, ha, ho, q⟩ := h
  cases rx
  obtain ⟨mA, J, _⟩ := ins_get I.hok ha
  obtain ⟨od, J, _⟩ := J.look
  obtain ⟨tb, lk, nf⟩ := oth_looks I ry ho
  obtain ⟨m, hF⟩ := I.fr
  show wpAny (model X.prog X.w) X.A (richCompare .Eq (.ref a) u) (EP X pins σ Q) X.xe s
  refine PySem.W.cmp_K (op := .Eq) hr.units0 hF I.ok.mod.kin J lk nf hm.at_ hm.fn ?_
  have run := run_fn (us := [.ref a, u]) (vs := [.ref a, y]) (ds := []) (dvs := []) F hr hb .nil hx I (.cons rfl (.cons ry .nil)) q
  refine wpAny_mono run ?_ fun _ _ z => z
  rintro r s' ⟨z, H', I', rz, b, rfl, qz⟩
  cases (show r = Value.bool b from rz)
  exact ⟨.bl b, H', I', rfl, qz⟩
theorem op_ownN (D : MthOk X.prog X.w X.K X.mg X.base C "__eq__" k ps sp) (n : NeOk X.K C) (hr : Room (k + 1) X.A) (hx : Passes (L2N.CX X.prog X.w) X E) : OpR X (compareOp .NotEq) (rOwnN C sp E) := by
  obtain ⟨f, fd, F, hm, hb, hc⟩ := D
  intro pins s σ H x y v u Q I rx ry h
  obtain ⟨a, dx, fs, rfl, ha, ho, q⟩ := h
  cases rx
  obtain ⟨mA, J, _⟩ := ins_get I.hok ha
  obtain ⟨od, J, _⟩ := J.look
  obtain ⟨tb, lk, nf⟩ := oth_looks I ry ho
  obtain ⟨m, hF⟩ := I.fr
  show wpAny (model X.prog X.w) X.A (richCompare .NotEq (.ref a) u) (EP X pins σ Q) X.xe s
  have hl := F.len _ _ _ _ q
  refine cmpNe_K (Nat.lt_of_le_of_lt (Nat.add_le_add_left (by decide) _) hr.units) hF I.ok.mod.kin J lk nf n.ne n.mo hm.at_ hm.fn ?_
  have bd := hb s [.ref a, u] I.kIn (by rw [List.append_nil]; simpa using hl)
  rw [List.append_nil] at bd
  have run := F.run X.A.in1 X.stack s H ⟨[.ref a, u], []⟩ [.ref a, u] [.ref a, y] _ E hr.in1 I.env0.in1 bd (.cons rfl (.cons ry .nil)) q
  refine wpAny_call (codeAny_mono run ?_)
  intro res s2 z
  match res, z with
  | .error er, z => exact hx pins σ H s er s2 I z
  | .ok (.ret r), z =>
    obtain ⟨zv, H', I', rz, b, rfl, qz⟩ := I.after z
    cases (show r = Value.bool b from rz)
    exact ⟨b, rfl, .bl (!b), H', I', rfl, qz⟩
  | .ok .next, z => exact z.elim
  | .ok .brk, z => exact z.elim
  | .ok .cont, z => exact z.elim
end
section
variable {K : PySem.W.Frag} {H : Hp} {Q : VK} {E : XK} {C a b dx dy : Addr} {fs gs : List (Str × V)} {sp : Sp}
theorem g_ownE (h : H a = some (.ins C dx fs)) (h2 : H b = some (.ins C dy gs)) (q : sp [.ref a, .ref b] H (fun v H' => ∃ b, v = .bl b ∧ Q (.bl b) H') E) : rOwnE C sp E (.ref a) (.ref b) H Q := ⟨a, dx, fs, rfl, h, .inr ⟨b, dy, gs, rfl, h2⟩, q⟩
theorem g_ownE0 (h : H a = some (.ins C dx fs)) (q : sp [.ref a, .non] H (fun v H' => ∃ b, v = .bl b ∧ Q (.bl b) H') E) : rOwnE C sp E (.ref a) .non H Q := ⟨a, dx, fs, rfl, h, .inl rfl, q⟩
theorem g_ownN (h : H a = some (.ins C dx fs)) (h2 : H b = some (.ins C dy gs)) (q : sp [.ref a, .ref b] H (fun v H' => ∃ b, v = .bl b ∧ Q (.bl (!b)) H') E) : rOwnN C sp E (.ref a) (.ref b) H Q := ⟨a, dx, fs, rfl, h, .inr ⟨b, dy, gs, rfl, h2⟩, q⟩
end
/-! #### methods and makers called by keywords alone -/
def MthL (P : Program) (w : World) (K : PySem.W.Frag) (mg : Str → Option Value) (base : Heap) (C : Addr) (m : Str) (k : Nat) (ps : List Str) (sp : Sp) : Prop :=
  ∃ f fd, FnOk P w K mg base (L2N.CX P w) k f fd ps sp ∧ Meth K C m f ∧ Binds K fd ps [] ∧ Cls K C ∧ ∃ oc od osl, K.lookup f = some ⟨oc, od, .func fd, osl⟩
def MkL (P : Program) (w : World) (K : PySem.W.Frag) (mg : Str → Option Value) (base : Heap) (x : Str) (C : Addr) (k : Nat) (ps : List Str) (sp : Sp) : Prop :=
  ∃ f fd, FnOk P w K mg base (L2N.CX P w) k f fd ps sp ∧ Mk K C f ∧ mg x = some (.ref C) ∧ Binds K fd ps [] ∧ ∃ oc od osl, K.lookup f = some ⟨oc, od, .func fd, osl⟩
section
variable {P : Program} {w : World} {K : PySem.W.Frag} {mg : Str → Option Value} {base : Heap} {x qual : Str} {st : Stmt} {N ps : List Str} {k : Nat} {sp : Sp} {C : Addr}
theorem TopM.okL (T : TopM K C x qual st) (c : Cls K C) (S : FnScope N ps (defScope st))
    (hb : ∀ (kV doc pm : Value) (an : Option Addr) (cdv ct : Value) (us : List Value), us.length = ps.length → bindArgs (PySem.W.fnOf x qual (defArgs st) (defBody st) (defScope st) .none kV doc pm an cdv ct) ⟨us, []⟩ = pure (ps.zip us))
    (len : ∀ vs H Q E, sp vs H Q E → vs.length = ps.length)
    (hbody : ∀ (f : Addr) (cdv : Value) (A : Around) (outer : List Env) (s : Shared) (H : Hp) (vs : List V) (Q : VK) (E : XK), Room k (A.deeper (envOfC qual (defScope st) s.heap.objs.size f cdv)) → sp vs H Q E →
      ∃ t, PSs (cxOf (L2N.CX P w) P w K mg base N qual (defScope st) f cdv A outer s H E) (defBody st) t ∧ t { nx := fun _ H' => Q .non H', rt := Q } (start N vs) H) : MthL P w K mg base C x (k + 1) ps sp := by
  obtain ⟨f, fd, F, hm⟩ := T
  obtain ⟨oc, od, dV, kV, doc, pm, an, cdv, ct, osl, _, lk, _, _, _⟩ := F.ex
  exact ⟨f, fd, F.ok S len fun cdv A outer s H vs Q E hr h => hbody f cdv A outer s H vs Q E hr h, hm, F.bindsN hb, c, oc, od, osl, lk⟩
theorem TopI.okL (T : TopI K mg x C qual st) (S : FnScope N ps (defScope st))
    (hb : ∀ (kV doc pm : Value) (an : Option Addr) (cdv ct : Value) (us : List Value), us.length = ps.length → bindArgs (PySem.W.fnOf "__init__" qual (defArgs st) (defBody st) (defScope st) .none kV doc pm an cdv ct) ⟨us, []⟩ = pure (ps.zip us))
    (len : ∀ vs H Q E, sp vs H Q E → vs.length = ps.length)
    (hbody : ∀ (f : Addr) (cdv : Value) (A : Around) (outer : List Env) (s : Shared) (H : Hp) (vs : List V) (Q : VK) (E : XK), Room k (A.deeper (envOfC qual (defScope st) s.heap.objs.size f cdv)) → sp vs H Q E →
      ∃ t, PSs (cxOf (L2N.CX P w) P w K mg base N qual (defScope st) f cdv A outer s H E) (defBody st) t ∧ t { nx := fun _ H' => Q .non H', rt := Q } (start N vs) H) : MkL P w K mg base x C (k + 1) ps sp := by
  obtain ⟨f, fd, F, hm, hx⟩ := T
  obtain ⟨oc, od, dV, kV, doc, pm, an, cdv, ct, osl, _, lk, _, _, _⟩ := F.ex
  exact ⟨f, fd, F.ok S len fun cdv A outer s H vs Q E hr h => hbody f cdv A outer s H vs Q E hr h, hm, hx, F.bindsN hb, oc, od, osl, lk⟩
theorem MthL.ok (D : MthL P w K mg base C x k ps sp) : MthOk P w K mg base C x k ps sp := by
  obtain ⟨f, fd, a, b, c, d, _⟩ := D
  exact ⟨f, fd, a, b, c, d⟩
theorem MkL.ok (D : MkL P w K mg base x C k ps sp) : MkOk P w K mg base x C k ps sp := by
  obtain ⟨f, fd, a, b, c, d, _⟩ := D
  exact ⟨f, fd, a, b, c, d⟩
end
def tMethK (C : Addr) (m : Str) (n : Nat) (sp : Sp) (E : XK) (ta : TE) (tk : TA) : TE := fun σ H Q => ta σ H fun x H1 => insR C m x H1 (tk σ H1 (kwR n (fun zs => x :: zs) sp E Q))
def tMakeK (C : Addr) (n : Nat) (sp : Sp) (E : XK) (tk : TA) : TE := fun σ H Q => tk σ H fun zs H2 => zs.length = n ∧ ∀ x dx, H2 x = none → H2 dx = none → dx ≠ x → sp (.ref x :: zs) (upd (upd H2 dx (.own x)) x (.ins C dx [])) (fun v H3 => v = .non ∧ Q (.ref x) H3) E
section
variable {X : Cx} {x m qual : Str} {k : Nat} {ps ks : List Str} {sp : Sp} {C : Addr} {E : XK} {p pos apos : Pos} {o : Expr} {ta : TE} {tk : TA} {kws : List Keyword} {st : Stmt}
theorem pe_mthK {pl : Sem Bool} (D : MthL X.prog X.w X.K X.mg X.base C m k ps sp) (T : TopM X.K C m qual st)
    (hb : ∀ (kV doc pm : Value) (an : Option Addr) (cdv ct x : Value) (us : List Value), us.length = ks.length → bindArgs (PySem.W.fnOf m qual (defArgs st) (defBody st) (defScope st) .none kV doc pm an cdv ct) ⟨[x], ks.zip us⟩ = pure (ps.zip (x :: us)))
    (hr : Room k X.A) (hx : Passes (L2N.CX X.prog X.w) X E) (ho : PE X o ta) (hkw : PK X kws tk)
    (hall : (backToKw pos (keywordEach kws X.env)).all (·.1.isSome) = true := by rfl) (hks : (backToKw pos (keywordEach kws X.env)).filterMap (·.1) = ks := by rfl)
    (hpl : ((backTo pos (starEach [] X.env)).any (·.1) || (backToKw pos (keywordEach kws X.env)).any (·.1.isNone)) = false := by rfl)
    (ht : eval (.Call (.Attribute o m apos) [] kws pos) X.env = (do
      let ov ← eval o X.env
      standAt apos.atName
      let (f, first) ← holding [ov] (getMethod ov m pl)
      callWith pos f first (backTo pos (starEach [] X.env)) (backToKw pos (keywordEach kws X.env))) := by rfl) :
    PE X (.Call (.Attribute o m apos) [] kws pos) (tMethK C m ks.length sp E ta tk) := by
  obtain ⟨f, fd, F, hm, _, hc, oc, od, osl, lk⟩ := D
  obtain ⟨f', fd', FD, hm'⟩ := T
  have e := hm.at_.symm.trans hm'.at_
  cases e
  obtain ⟨oc', od', dV, kV, doc, pm, an, cdv, ct, osl', rfl, lk', _, hD, _⟩ := FD.ex
  cases lk.symm.trans lk'
  rcases hD with ⟨_, rfl⟩ | ⟨e, _⟩
  · constructor
    intro pins s σ H Q I h
    have run := ho.run pins s σ H _ I h
    refine PySem.W.methodCall_KW (pl := pl) (thn run ?_) ht
    rintro u s1 ⟨y, H1, I1, ry, a, dx, fs, rfl, ea, l, q⟩
    cases (show u = Value.ref a from ry)
    apply getmeth_ok I1 ea hc hm l
    apply PySem.W.callWith_KW0 (h₀ := X.base) (first := [.ref a]) I.ok.mod.kin hm.kp hall ?_ hpl
    refine thn (hkw.run pos pins s1 σ H1 _ I1 q) ?_
    rintro ws s2 ⟨zs, H2, I2, rz, l2, q2⟩
    refine ⟨I2.kIn, ?_⟩
    rw [hks]
    have bd := BindsTo.of_eq (s := s2) (hb kV doc pm an cdv ct (.ref a) ws (rz.length.symm.trans l2))
    have run := F.run X.A X.stack s2 H2 ⟨[.ref a], ks.zip ws⟩ (.ref a :: ws) (.ref a :: zs) Q E hr I2.env0 bd (.cons rfl rz) q2
    refine wpAny_call (codeAny_mono run ?_)
    intro res s3 z
    match res, z with
    | .error er, z => exact hx pins σ H2 s2 er s3 I2 z
    | .ok (.ret u), z => exact I2.after z
    | .ok .next, z => exact z.elim
    | .ok .brk, z => exact z.elim
    | .ok .cont, z => exact z.elim
  · exact absurd rfl e
theorem pe_mkK (D : MkL X.prog X.w X.K X.mg X.base x C k ps sp) (T : TopI X.K X.mg x C qual st)
    (hb : ∀ (kV doc pm : Value) (an : Option Addr) (cdv ct x : Value) (us : List Value), us.length = ks.length → bindArgs (PySem.W.fnOf "__init__" qual (defArgs st) (defBody st) (defScope st) .none kV doc pm an cdv ct) ⟨[x], ks.zip us⟩ = pure (ps.zip (x :: us)))
    (hr : Room (k + 1) X.A) (hx : Passes (L2N.CX X.prog X.w) X E) (hkw : PK X kws tk) (hg : Gl X x := by rfl)
    (hall : (backToKw pos (keywordEach kws X.env)).all (·.1.isSome) = true := by rfl) (hks : (backToKw pos (keywordEach kws X.env)).filterMap (·.1) = ks := by rfl) (hdb : (x == ("__debug__" : Str)) = false := by decide)
    (hpl : ((backTo pos (starEach [] X.env)).any (·.1) || (backToKw pos (keywordEach kws X.env)).any (·.1.isNone)) = false := by rfl) : PE X (.Call (.Name x p) [] kws pos) (tMakeK C ks.length sp E tk) := by
  obtain ⟨f, fd, F, hm, hmx, _, oc, od, osl, lk⟩ := D
  obtain ⟨f', fd', FD, hm', _⟩ := T
  have e := hm.init.symm.trans hm'.init
  cases e
  obtain ⟨oc', od', dV, kV, doc, pm, an, cdv, ct, osl', rfl, lk', _, hD, _⟩ := FD.ex
  cases lk.symm.trans lk'
  rcases hD with ⟨_, rfl⟩ | ⟨e, _⟩
  · have kb : KBn X.K (PySem.W.fnOf "__init__" qual (defArgs st) (defBody st) (defScope st) .none kV doc pm an cdv ct) ps (0 + 1) ks (fun us ws => us ++ ws) (fun vs zs => vs ++ zs) := by
      refine ⟨fun s us ws _ l1 l2 => ?_, fun r1 r2 => r1.append r2⟩
      match us, l1 with
      | [u], _ => exact BindsTo.of_eq (hb kV doc pm an cdv ct u ws l2)
    constructor
    intro pins s σ H Q I h
    apply wpAny_Call_Name_kw (ld_glob I hg hmx ?_ hdb)
    apply PySem.W.callWith_KW0 (h₀ := X.base) I.ok.mod.kin hm.kp hall ?_ hpl
    refine thn (hkw.run pos pins s σ H _ I h) ?_
    rintro ws s2 ⟨zs, H2, I2, rz, l, q⟩
    refine ⟨I2.kIn, ?_⟩
    rw [hks]
    exact run_makeN (n := 0) (us := []) (vs := []) hm F hr kb hx I2 .nil rz rfl l q
  · exact absurd rfl e
end
section
variable {σ : L2.St} {H : Hp} {Q : VK} {sp : Sp} {E : XK} {tk : TA} {ta : TE} {n : Nat} {C : Addr} {m : Str} {zs : List V}
theorem g_methK (q : ta σ H fun x H1 => insR C m x H1 (tk σ H1 (kwR n (fun zs => x :: zs) sp E Q))) : tMethK C m n sp E ta tk σ H Q := q
theorem g_makeK (q : tk σ H fun zs H2 => zs.length = n ∧ ∀ x dx, H2 x = none → H2 dx = none → dx ≠ x → sp (.ref x :: zs) (upd (upd H2 dx (.own x)) x (.ins C dx [])) (fun v H3 => v = .non ∧ Q (.ref x) H3) E) : tMakeK C n sp E tk σ H Q := q
theorem g_makeK1 {M : Prop} (h : zs.length = n) (q : M) : zs.length = n ∧ M := ⟨h, q⟩
end
end SH
end

section
/-! ### own errors whose __init__ says super().__init__(e), then self.f = e; their class stands under another own class under ValueError -/
namespace PySem
namespace XsX
open PySem.W PySem.Calls PyProof.Rows PySem.HandSPX
def iA (f : Str) (p1 p2 : Pos) : Arguments := { posonlyargs := [], args := [{ arg := "self", annotation := none, pos := p1 }, { arg := f, annotation := none, pos := p2 }], vararg := none, kwonlyargs := [], kw_defaults := [], kwarg := none, defaults := [] }
def iB (f : Str) (q0 q1 q2 q3 q4 q5 q6 q7 q8 q9 : Pos) : List Stmt :=
  [.Expr (.Call (.Attribute (.Call (.Name "super" q0) [] [] q1) "__init__" q2) [.Name f q3] [] q4) q5, .Assign [.Attribute (.Name "self" q6) f q7] (.Name f q8) q9]
def iS (f : Str) : Scope := { kind := .function, names := [(PySem.Str.ofString "self", .local), (f, .local), (PySem.Str.ofString "__class__", .free), (PySem.Str.ofString "super", .globalImplicit)], isGenerator := false, isCoroutine := false, more := [] }
structure NmOk (f : Str) : Prop where
  l1 : (iS f).names.lookup ("self" : Str) = some NameKind.local
  l2 : (iS f).names.lookup f = some NameKind.local
  l3 : (iS f).names.lookup ("__class__" : Str) = some NameKind.free
  l4 : (iS f).names.lookup ("super" : Str) = some NameKind.globalImplicit
  ne : ¬ ("self" : Str) = f
  nd : (f == ("__debug__" : Str)) = false
/-- what the written part says of the class at C, its field f, its __init__ at fI -/
structure XsTxt (prog : Program) (K : Frag) (mg : Str → Option Value) (x f : Str) (C fI : Addr) : Prop where
  nm : NmOk f
  gC : mg x = some (.ref C)
  cls : ∃ nm q N bs bm sn sub ab col dd k0 k1 k2 k3 k5, K.lookup C = some (excClassObj nm q C N bs bm true sn sub ab col dd k0 k1 k2 k3 k5 "ValueError.__new__") ∧ refsVE bm = true
  sup : ks_superIn K C C "__init__" = some (some (.builtin "ValueError.__init__"))
  sa : findIn K (.ref C) "__setattr__" = some (some (.builtin "object.__setattr__"))
  noF : findIn K (.ref C) f = some none
  iC : findIn K (.ref C) "__init__" = some (some (.ref fI))
  tC : typeIn K (.ref fI) = some (.type "function")
  kC : keepIn K (.ref C) = true
  exC : subIn K (.ref C) (.type "BaseException") = some true
  vC : subIn K (.ref C) (.type "ValueError") = some true
  mC : mroIn K C (.ref C) = some true
  tyC : typeIn K (.ref C) = some (.type "type")
  top : (prog.main.scope.names.lookup ("super" : Str)).isSome = false
  sg : nsIn K mainGlobals "super" = some none
  tp : nsIn K cStatics "thirdparty.any" = some none
  fn : ∃ (qual : Str) (oc : Value) (od : Option Addr) (doc pm : Value) (an : Option Addr) (cda cc : Addr) (ct : Value) (osl : Array (Option Value)) (p1 p2 q0 q1 q2 q3 q4 q5 q6 q7 q8 q9 : Pos)
      (ccl : Value) (cdd : Option Addr) (vs : Array Value) (ccs : Array (Option Value)) (file : Str) (tf : Tok) (cl : Value) (cld : Option Addr) (csl : Array (Option Value)),
    K.lookup fI = some ⟨oc, od, .func (ksFn "__init__" qual (iA f p1 p2) (iB f q0 q1 q2 q3 q4 q5 q6 q7 q8 q9) (iS f) .none .none doc pm an (.ref cda) ct cc), osl⟩ ∧ codeIn K (.ref cda) qual = true ∧
    K.lookup cda = some ⟨ccl, cdd, .fields vs, ccs⟩ ∧ vs[2]? = some (.str file tf) ∧ ((prog.main.file : Str) == file) = true ∧ K.lookup cc = some ⟨cl, cld, .cell (some (.ref C)), csl⟩ ∧ (q2.endLine == q4.line) = true
/-- what __init__ leaves of a fresh exception at x -/
structure InitEnd (h h' : Heap) (x C dx t1 : Addr) (f : Str) (v : Value) : Prop where
  keep : ∀ b o, b ≠ x → h.get? b = some o → h'.get? b = some o
  obj : h'.get? x = some { cls := .ref C, dict := some dx, data := .fields #[.ref t1, .none, .none, .none, .bool false, .none] }
  dbig : h.objs.size ≤ dx
  dne : dx ≠ x
  ns : h'.Ns1 dx (fun y => if y = f then some v else none)
structure OwnMade (h h' : Heap) (e C d : Addr) (f : Str) (v : Value) : Prop where
  keep : ∀ b o, h.get? b = some o → h'.get? b = some o
  new : h.objs.size ≤ e
  obj : ∃ oe vs, h'.get? e = some oe ∧ oe.cls = .ref C ∧ oe.dict = some d ∧ oe.data = .fields vs ∧ vs[1]? = some .none ∧ vs[2]? = some .none ∧ 4 < vs.size
  dbig : h.objs.size ≤ d
  dne : d ≠ e
  ns : h'.Ns1 d (fun y => if y = f then some v else none)
theorem mc_eq {env : Env} {o : Expr} {name x : Str} {apos pos px : Pos} (hl : (apos.endLine == pos.line) = true) :
    eval (.Call (.Attribute o name apos) [.Name x px] [] pos) env = (do
      let ov ← attributeBase o name env (eval o env)
      standAt apos.atName
      let (f, first) ← holding [ov] (getMethod ov name (do return (← importBound o env).getD true))
      callWith pos f first (backTo pos (starEach [.Name x px] env)) []) := by
  show (do
      let ov ← attributeBase o name env (eval o env)
      standAt apos.atName
      methodCall o name apos pos env ov 1 (backTo pos (starEach [.Name x px] env)) []) = _
  have e : methodCallForm 1 (backTo pos (starEach [.Name x px] env)) [] = true := rfl
  unfold methodCall methodCallPos calleeOf
  simp only [e, hl, Bool.not_true, Bool.or_true, if_true, pure_bind]
theorem one_size (v : Value) : [v].length ≤ sizeLine := by
  rw [sizeLine_eq]
  exact (by decide : 1 ≤ 16777216)
section
variable {prog : Program} {w : World} {A : Around} {E : Value → Shared → Prop} {h : Heap} {g : Array GenState} {d : Drawn} {t : Nat} {os : OsState}
variable {nm q : Str} {C N : Addr} {bs bm : List Value} {hdct : Bool} {sn : List Str} {sub : List Value} {ab : Bool} {col : Option Bool} {dd : Option Addr} {k0 k1 k2 k3 k5 : Option Value}
theorem call_bw {u e t0 : Addr} {rest : List Value} {Q : Value → Shared → Prop}
    (hC : h.get? C = some (excClassObj nm q C N bs bm hdct sn sub ab col dd k0 k1 k2 k3 k5 "ValueError.__new__")) (he : h.get? e = some (HandSPX.excO C t0)) (hu : h.get? u = some (kxs_mw "ValueError.__init__" e)) (hrest : rest.length ≤ sizeLine)
    (hq : ∀ h' t1, (∀ b o, b ≠ e → h.get? b = some o → h'.get? b = some o) → h'.get? e = some (HandSPX.excO C t1) → Q .none ⟨h', g, d, t, os⟩) :
    wpAny (model prog w) A (call (.ref u) rest) Q E ⟨h, g, d, t, os⟩ := by
  refine wpAny_call (codeAny_of_tree ?_)
  show wpAny _ A.in1 (callAny (.ref u) ⟨rest, []⟩) _ _ _
  simp only [callAny]
  refine wpAny_bind (wpAny_load hu ?_)
  simp only [kxs_mw, show (Value.type "method-wrapper" == Value.type "method" || Value.type "method-wrapper" == Value.type "builtin_function_or_method" || Value.type "method-wrapper" == Value.type "method-wrapper") = true by decide, if_true]
  refine W.KFB.if_so (by decide) ?_
  refine wpAny_bind (ESX.check_bound F.excBase_ValueError hC he rfl ?_)
  refine wpAny_bind (wpAny_pure (wpAny_pure ?_))
  refine ⟨Code.quiet_builtin _ (by decide +kernel), codeAny_builtin F.excBase_ValueError.initEntry ?_⟩
  rw [Around.under_plainId F.excBase_ValueError.init.plain _]
  wp_walk
  refine hq _ h.objs.size (fun b o hb ho => ?_) ?_
  · rw [Heap.get?_update_other _ _ (Ne.symm hb)]
    exact Heap.get?_push_of_some _ ho
  · rw [Heap.get?_update_self _ (Heap.get?_push_of_some _ he) rfl]
    rfl
end
section
variable {prog : Program} {w : World} {A : Around} {E : Value → Shared → Prop} {R : Result → Shared → Prop} {s : Shared} {K : Frag} {mg mb : Str → Option Value} {x : Str} {C fI : Addr}
theorem xs_init_name (T : XsTxt prog K mg x "name" C fI) {a t0 : Addr} {v : Value} (X : K.In s.heap) (G : s.heap.Ns mainGlobals mg) (B : s.heap.Ns builtinsNs mb) (hB : mb "super" = some (.type "super")) (hlim : s.heap.NoLimit) (ha : s.heap.get? a = some (excO C t0)) (hna : K.lookup a = none) (hroom : A.depth < recursionLimit)
    (hq : ∀ h' tk dx t1, InitEnd s.heap h' a C dx t1 "name" v → R (.ok (.ret .none)) { s with heap := h', toks := tk }) :
    codeAny (model prog w) A (.call (.ref fI) ⟨[.ref a, v], []⟩) R s := by
  obtain ⟨qual, oc, od, doc, pm, an, cda, cc, ct, osl, p1, p2, q0, q1, q2, q3, q4, q5, q6, q7, q8, q9, ccl, cdd, vs, ccs, file, tf, cl, cld, csl, ho, hcd, hcda, hvs, hfile, hcc, hln⟩ := T.fn
  obtain ⟨nm, q, N, bs, bm, sn, sub, ab, col, dd, k0, k1, k2, k3, k5, hC, hbm⟩ := T.cls
  have hcl : clsIn K C = some { name := nm, bases := bs, mro := .ref C :: bm, ns := N, qualname := q, hasDict := true, slotNames := sn, subclasses := sub, abstract := ab, collection := col, hasDel := false } := by unfold clsIn; rw [hC] <;> rfl
  have hns : mg "super" = none := mg_none_of X G T.sg
  refine ks_codeAny_call_defAt (fd := ksFn "__init__" qual (iA "name" p1 p2) (iB "name" q0 q1 q2 q3 q4 q5 q6 q7 q8 q9) (iS "name") .none .none doc pm an (.ref cda) ct cc) (body := iB "name" q0 q1 q2 q3 q4 q5 q6 q7 q8 q9)
    (binds := [("self", .ref a), ("name", v)]) hroom (X _ _ ho) rfl hlim (codeRec_of X hcd) rfl (BindsTo.of_eq (by first | rfl | with_unfolding_all rfl)) ?_ ?_ (fun h₁ hns₁ k₁ => ?_) rfl rfl rfl
  · intro y hy e
    have hy' : y ∈ [(PySem.Str.ofString "self", NameKind.local), ("name", .local), (PySem.Str.ofString "__class__", .free), (PySem.Str.ofString "super", .globalImplicit)] := hy
    simp only [List.mem_cons, List.not_mem_nil, or_false] at hy'
    rcases hy' with rfl | rfl | rfl | rfl <;> cases e
  · intro y hy
    rcases List.mem_cons.mp hy with rfl | hy
    · exact T.nm.l1
    · rcases List.mem_singleton.mp hy with rfl
      exact T.nm.l2
  have X₁ : K.In h₁ := X.keeps k₁
  have ha₁ := k₁ _ _ ha
  have hfl : ([("self", Value.ref a), ("name", v)] : List (Str × Value)).reverse.lookup ("name" : Str) = some v := by
    show ([("name", v), ("self", Value.ref a)] : List (Str × Value)).lookup ("name" : Str) = some v
    simp [List.lookup]
  have hsl : ([("self", Value.ref a), ("name", v)] : List (Str × Value)).reverse.lookup ("self" : Str) = some (.ref a) := by
    show ([("name", v), ("self", Value.ref a)] : List (Str × Value)).lookup ("self" : Str) = some (.ref a)
    have e : (("self" : Str) == ("name" : Str)) = false := by simpa using T.nm.ne
    simp [List.lookup, e]
  have I₁ : InstAt h₁ a (excO C t0) C none := ⟨ha₁, rfl, rfl, trivial⟩
  refine ks_wpAt_execs_cons (ks_wpAt_Expr_any (ks_wpAt_MethodCall ?_ (mc_eq hln)))
  refine ks_wpAt_super_base T.nm.l4 T.nm.l3 (by decide) rfl (X₁ _ _ ho) rfl rfl rfl (X₁ _ _ hcda) rfl hvs hfile T.top ?_
  refine ks_loadName_global rfl T.nm.l4 (loadGlobal_builtin (G.keeps k₁) hns (B.keeps k₁) hB ⟨rfl, ?_⟩)
  refine wpAny_loadName_free rfl T.nm.l3 (by rfl) ⟨_, X₁ _ _ hcc, rfl⟩ ?_
  refine wpAny_loadName_local rfl T.nm.l1 hns₁ hsl ?_
  refine ks_wpAny_isType_cls (X₁ _ _ hC) rfl ⟨rfl, ?_⟩
  refine ks_wpAny_call_super (X₁ _ _ hC) rfl I₁.at_ I₁.cls (fun c e => by cases e) (looks_mroIn X₁ T.mC) (fun h₂ e₂ k₂ => ?_)
  have X₂ : K.In h₂ := X₁.keeps k₂
  have ha₂ := k₂ _ _ ha₁
  have I₂ : InstAt h₂ a (excO C t0) C none := ⟨ha₂, rfl, rfl, trivial⟩
  have hf : alongIn K "__init__" (((Value.ref C :: bm).dropWhile (· != .ref C)).drop 1) = some (some (.builtin "ValueError.__init__")) := by
    have z := T.sup
    unfold ks_superIn at z
    rw [hcl] at z
    exact z
  have naC : a ≠ C := fun z => by rw [z, hC] at hna; cases hna
  refine kxs_getMethod kxs_ValueError e₂ (looks_opaque X₂ T.tp) (l₀ := .ref C :: bm) (fun A Q E s k q => wpAny_bind ((looks_clsIn X₂ hcl) A _ E s k (wpAny_pure q))) rfl X₂ hf (I₂.type.andThen (looks_subIn X₂ T.vC)) naC (by decide) ?_
  have k₃ : ∀ b o, h₂.get? b = some o → (h₂.push (kxs_mw "ValueError.__init__" a)).get? b = some o := fun b o e => Heap.get?_push_of_some _ e
  refine kxs_callWith (i := "ValueError.__init__") (x := a) rfl (evalArgs_plain ?_)
  have hns₂ : ((h₂.push (kxs_mw "ValueError.__init__" a)).Ns s.heap.objs.size fun x => ([("self", Value.ref a), ("name", v)] : List (Str × Value)).reverse.lookup x) := by
    obtain ⟨oL, es, ep, hL, r⟩ := hns₁
    exact ⟨oL, es, ep, k₃ _ _ (k₂ _ _ hL), r⟩
  refine Calls.spliced_cons (ESX.ldL (m := fun x => ([("self", Value.ref a), ("name", v)] : List (Str × Value)).reverse.lookup x) hns₂ hfl ?_ rfl T.nm.l2 T.nm.nd)
  refine Calls.spliced_nil ?_
  refine ⟨Heap.get?_push_size _ rfl, ?_⟩
  refine call_bw (k₃ _ _ (X₂ _ _ hC)) (k₃ _ _ ha₂) (Heap.get?_push_size _ rfl) (one_size v) (fun h₄ t1 k₄ ha₄ => ?_)
  have kall : ∀ b o, b ≠ a → s.heap.get? b = some o → h₄.get? b = some o := fun b o hb e => k₄ b o hb (k₃ _ _ (k₂ _ _ (k₁ _ _ e)))
  have X₄ : K.In h₄ := fun b o e => kall b o (fun z => by rw [z, hna] at e; cases e) (X b o e)
  have hL : s.heap.objs.size ≠ a := Nat.ne_of_gt (Heap.lt_size ha)
  have hns₄ : h₄.Ns s.heap.objs.size fun x => ([("self", Value.ref a), ("name", v)] : List (Str × Value)).reverse.lookup x := by
    obtain ⟨oL, es, ep, hL', r⟩ := hns₂
    exact ⟨oL, es, ep, k₄ _ _ hL hL', r⟩
  refine ks_wpAt_execs_cons (wpAt_of_wpAny (plainObj_wpAny_Assign_Attribute ?_))
  refine ESX.ldL (m := fun x => ([("self", Value.ref a), ("name", v)] : List (Str × Value)).reverse.lookup x) hns₄ hfl ?_ rfl T.nm.l2 T.nm.nd
  refine ESX.ldL (m := fun x => ([("self", Value.ref a), ("name", v)] : List (Str × Value)).reverse.lookup x) hns₄ hsl ?_ rfl T.nm.l1 (by decide)
  refine set_plain X₄ (ox := excO C t1) (od := none) ⟨ha₄, rfl, rfl, trivial⟩ T.sa ?_
  refine exc_osa X₄ ha₄ hcl (show refsVE (.ref C :: bm) = true from hbm) rfl T.noF (fun h₅ tk₅ dx k₅ dn dne hx₅ hn₅ => ?_)
  refine wpAt_of_wpAny (wpAny_execs_nil ?_)
  have zL : s.heap.objs.size < h₄.objs.size := hns₄.lt
  exact hq h₅ tk₅ dx t1 ⟨fun b o hb e => k₅ b o hb (kall b o hb e), hx₅, Nat.le_of_lt (Nat.lt_of_lt_of_le zL dn), dne, hn₅⟩
theorem xs_made_name (T : XsTxt prog K mg x "name" C fI) {v : Value} (X : K.In s.heap) (G : s.heap.Ns mainGlobals mg) (B : s.heap.Ns builtinsNs mb) (hB : mb "super" = some (.type "super")) (hlim : s.heap.NoLimit) (hroom : A.depth + 1 < recursionLimit)
    (hq : ∀ h' tk e d, OwnMade s.heap h' e C d "name" v → R (.ok (.ret (.ref e))) { s with heap := h', toks := tk }) :
    codeAny (model prog w) A (.call (.ref C) ⟨[v], []⟩) R s := by
  obtain ⟨nm, q, N, bs, bm, sn, sub, ab, col, dd, k0, k1, k2, k3, k5, hC, hbm⟩ := T.cls
  obtain ⟨hp, g, dr, tk, os⟩ := s
  have k : ∀ b o, hp.get? b = some o → ((hp.push (kdv_tup [v])).push (excO C hp.objs.size)).get? b = some o := fun b o e => Heap.get?_push_of_some _ (Heap.get?_push_of_some _ e)
  have hget : ((hp.push (kdv_tup [v])).push (excO C hp.objs.size)).get? (hp.objs.size + 1) = some (excO C hp.objs.size) := by heap_get
  have hnx : K.lookup (hp.objs.size + 1) = none := by
    cases e : K.lookup (hp.objs.size + 1) with
    | none => rfl
    | some o =>
      have z : hp.get? (hp.objs.size + 1) = some o := X _ _ e
      exact absurd (Nat.lt_of_succ_lt (Heap.lt_size z)) (Nat.lt_irrefl _)
  refine call_own F.excBase_ValueError (fun X => refsVE_contains X bm hbm) (X _ _ hC) (looks_findIn X T.iC) (fun self => bind_fn X self T.tC) (one_size v) ?_
  refine xs_init_name (s := ⟨(hp.push (kdv_tup [v])).push (excO C hp.objs.size), g, dr, tk, os⟩) T (X.keeps k) (G.keeps k) (B.keeps k) hB (hlim.keeps k) hget hnx ?_ fun h' tk' dx t1 ⟨k', hx, dn, dne, hns⟩ => ?_
  · show A.depth + 1 < recursionLimit
    exact hroom
  · have old : ∀ b o, hp.get? b = some o → h'.get? b = some o := fun b o e => k' b o (Nat.ne_of_lt (Nat.lt_succ_of_lt (Heap.lt_size e))) (k b o e)
    have z : hp.objs.size + 1 + 1 ≤ dx := by
      first
        | (simpa only [Heap.size_push] using dn)
        | exact dn
        | (have q := dn; rw [Heap.size_push, Heap.size_push] at q; exact q)
    exact ⟨rfl, hq h' tk' (hp.objs.size + 1) dx ⟨old, Nat.le_succ _, ⟨_, _, hx, rfl, rfl, rfl, rfl, rfl, by simp⟩, Nat.le_trans (Nat.le_trans (Nat.le_succ _) (Nat.le_succ _)) z, dne, hns⟩⟩
theorem xs_init_word (T : XsTxt prog K mg x "word" C fI) {a t0 : Addr} {v : Value} (X : K.In s.heap) (G : s.heap.Ns mainGlobals mg) (B : s.heap.Ns builtinsNs mb) (hB : mb "super" = some (.type "super")) (hlim : s.heap.NoLimit) (ha : s.heap.get? a = some (excO C t0)) (hna : K.lookup a = none) (hroom : A.depth < recursionLimit)
    (hq : ∀ h' tk dx t1, InitEnd s.heap h' a C dx t1 "word" v → R (.ok (.ret .none)) { s with heap := h', toks := tk }) :
    codeAny (model prog w) A (.call (.ref fI) ⟨[.ref a, v], []⟩) R s := by
  obtain ⟨qual, oc, od, doc, pm, an, cda, cc, ct, osl, p1, p2, q0, q1, q2, q3, q4, q5, q6, q7, q8, q9, ccl, cdd, vs, ccs, file, tf, cl, cld, csl, ho, hcd, hcda, hvs, hfile, hcc, hln⟩ := T.fn
  obtain ⟨nm, q, N, bs, bm, sn, sub, ab, col, dd, k0, k1, k2, k3, k5, hC, hbm⟩ := T.cls
  have hcl : clsIn K C = some { name := nm, bases := bs, mro := .ref C :: bm, ns := N, qualname := q, hasDict := true, slotNames := sn, subclasses := sub, abstract := ab, collection := col, hasDel := false } := by unfold clsIn; rw [hC] <;> rfl
  have hns : mg "super" = none := mg_none_of X G T.sg
  refine ks_codeAny_call_defAt (fd := ksFn "__init__" qual (iA "word" p1 p2) (iB "word" q0 q1 q2 q3 q4 q5 q6 q7 q8 q9) (iS "word") .none .none doc pm an (.ref cda) ct cc) (body := iB "word" q0 q1 q2 q3 q4 q5 q6 q7 q8 q9)
    (binds := [("self", .ref a), ("word", v)]) hroom (X _ _ ho) rfl hlim (codeRec_of X hcd) rfl (BindsTo.of_eq (by first | rfl | with_unfolding_all rfl)) ?_ ?_ (fun h₁ hns₁ k₁ => ?_) rfl rfl rfl
  · intro y hy e
    have hy' : y ∈ [(PySem.Str.ofString "self", NameKind.local), ("word", .local), (PySem.Str.ofString "__class__", .free), (PySem.Str.ofString "super", .globalImplicit)] := hy
    simp only [List.mem_cons, List.not_mem_nil, or_false] at hy'
    rcases hy' with rfl | rfl | rfl | rfl <;> cases e
  · intro y hy
    rcases List.mem_cons.mp hy with rfl | hy
    · exact T.nm.l1
    · rcases List.mem_singleton.mp hy with rfl
      exact T.nm.l2
  have X₁ : K.In h₁ := X.keeps k₁
  have ha₁ := k₁ _ _ ha
  have hfl : ([("self", Value.ref a), ("word", v)] : List (Str × Value)).reverse.lookup ("word" : Str) = some v := by
    show ([("word", v), ("self", Value.ref a)] : List (Str × Value)).lookup ("word" : Str) = some v
    simp [List.lookup]
  have hsl : ([("self", Value.ref a), ("word", v)] : List (Str × Value)).reverse.lookup ("self" : Str) = some (.ref a) := by
    show ([("word", v), ("self", Value.ref a)] : List (Str × Value)).lookup ("self" : Str) = some (.ref a)
    have e : (("self" : Str) == ("word" : Str)) = false := by simpa using T.nm.ne
    simp [List.lookup, e]
  have I₁ : InstAt h₁ a (excO C t0) C none := ⟨ha₁, rfl, rfl, trivial⟩
  refine ks_wpAt_execs_cons (ks_wpAt_Expr_any (ks_wpAt_MethodCall ?_ (mc_eq hln)))
  refine ks_wpAt_super_base T.nm.l4 T.nm.l3 (by decide) rfl (X₁ _ _ ho) rfl rfl rfl (X₁ _ _ hcda) rfl hvs hfile T.top ?_
  refine ks_loadName_global rfl T.nm.l4 (loadGlobal_builtin (G.keeps k₁) hns (B.keeps k₁) hB ⟨rfl, ?_⟩)
  refine wpAny_loadName_free rfl T.nm.l3 (by rfl) ⟨_, X₁ _ _ hcc, rfl⟩ ?_
  refine wpAny_loadName_local rfl T.nm.l1 hns₁ hsl ?_
  refine ks_wpAny_isType_cls (X₁ _ _ hC) rfl ⟨rfl, ?_⟩
  refine ks_wpAny_call_super (X₁ _ _ hC) rfl I₁.at_ I₁.cls (fun c e => by cases e) (looks_mroIn X₁ T.mC) (fun h₂ e₂ k₂ => ?_)
  have X₂ : K.In h₂ := X₁.keeps k₂
  have ha₂ := k₂ _ _ ha₁
  have I₂ : InstAt h₂ a (excO C t0) C none := ⟨ha₂, rfl, rfl, trivial⟩
  have hf : alongIn K "__init__" (((Value.ref C :: bm).dropWhile (· != .ref C)).drop 1) = some (some (.builtin "ValueError.__init__")) := by
    have z := T.sup
    unfold ks_superIn at z
    rw [hcl] at z
    exact z
  have naC : a ≠ C := fun z => by rw [z, hC] at hna; cases hna
  refine kxs_getMethod kxs_ValueError e₂ (looks_opaque X₂ T.tp) (l₀ := .ref C :: bm) (fun A Q E s k q => wpAny_bind ((looks_clsIn X₂ hcl) A _ E s k (wpAny_pure q))) rfl X₂ hf (I₂.type.andThen (looks_subIn X₂ T.vC)) naC (by decide) ?_
  have k₃ : ∀ b o, h₂.get? b = some o → (h₂.push (kxs_mw "ValueError.__init__" a)).get? b = some o := fun b o e => Heap.get?_push_of_some _ e
  refine kxs_callWith (i := "ValueError.__init__") (x := a) rfl (evalArgs_plain ?_)
  have hns₂ : ((h₂.push (kxs_mw "ValueError.__init__" a)).Ns s.heap.objs.size fun x => ([("self", Value.ref a), ("word", v)] : List (Str × Value)).reverse.lookup x) := by
    obtain ⟨oL, es, ep, hL, r⟩ := hns₁
    exact ⟨oL, es, ep, k₃ _ _ (k₂ _ _ hL), r⟩
  refine Calls.spliced_cons (ESX.ldL (m := fun x => ([("self", Value.ref a), ("word", v)] : List (Str × Value)).reverse.lookup x) hns₂ hfl ?_ rfl T.nm.l2 T.nm.nd)
  refine Calls.spliced_nil ?_
  refine ⟨Heap.get?_push_size _ rfl, ?_⟩
  refine call_bw (k₃ _ _ (X₂ _ _ hC)) (k₃ _ _ ha₂) (Heap.get?_push_size _ rfl) (one_size v) (fun h₄ t1 k₄ ha₄ => ?_)
  have kall : ∀ b o, b ≠ a → s.heap.get? b = some o → h₄.get? b = some o := fun b o hb e => k₄ b o hb (k₃ _ _ (k₂ _ _ (k₁ _ _ e)))
  have X₄ : K.In h₄ := fun b o e => kall b o (fun z => by rw [z, hna] at e; cases e) (X b o e)
  have hL : s.heap.objs.size ≠ a := Nat.ne_of_gt (Heap.lt_size ha)
  have hns₄ : h₄.Ns s.heap.objs.size fun x => ([("self", Value.ref a), ("word", v)] : List (Str × Value)).reverse.lookup x := by
    obtain ⟨oL, es, ep, hL', r⟩ := hns₂
    exact ⟨oL, es, ep, k₄ _ _ hL hL', r⟩
  refine ks_wpAt_execs_cons (wpAt_of_wpAny (plainObj_wpAny_Assign_Attribute ?_))
  refine ESX.ldL (m := fun x => ([("self", Value.ref a), ("word", v)] : List (Str × Value)).reverse.lookup x) hns₄ hfl ?_ rfl T.nm.l2 T.nm.nd
  refine ESX.ldL (m := fun x => ([("self", Value.ref a), ("word", v)] : List (Str × Value)).reverse.lookup x) hns₄ hsl ?_ rfl T.nm.l1 (by decide)
  refine set_plain X₄ (ox := excO C t1) (od := none) ⟨ha₄, rfl, rfl, trivial⟩ T.sa ?_
  refine exc_osa X₄ ha₄ hcl (show refsVE (.ref C :: bm) = true from hbm) rfl T.noF (fun h₅ tk₅ dx k₅ dn dne hx₅ hn₅ => ?_)
  refine wpAt_of_wpAny (wpAny_execs_nil ?_)
  have zL : s.heap.objs.size < h₄.objs.size := hns₄.lt
  exact hq h₅ tk₅ dx t1 ⟨fun b o hb e => k₅ b o hb (kall b o hb e), hx₅, Nat.le_of_lt (Nat.lt_of_lt_of_le zL dn), dne, hn₅⟩
theorem xs_made_word (T : XsTxt prog K mg x "word" C fI) {v : Value} (X : K.In s.heap) (G : s.heap.Ns mainGlobals mg) (B : s.heap.Ns builtinsNs mb) (hB : mb "super" = some (.type "super")) (hlim : s.heap.NoLimit) (hroom : A.depth + 1 < recursionLimit)
    (hq : ∀ h' tk e d, OwnMade s.heap h' e C d "word" v → R (.ok (.ret (.ref e))) { s with heap := h', toks := tk }) :
    codeAny (model prog w) A (.call (.ref C) ⟨[v], []⟩) R s := by
  obtain ⟨nm, q, N, bs, bm, sn, sub, ab, col, dd, k0, k1, k2, k3, k5, hC, hbm⟩ := T.cls
  obtain ⟨hp, g, dr, tk, os⟩ := s
  have k : ∀ b o, hp.get? b = some o → ((hp.push (kdv_tup [v])).push (excO C hp.objs.size)).get? b = some o := fun b o e => Heap.get?_push_of_some _ (Heap.get?_push_of_some _ e)
  have hget : ((hp.push (kdv_tup [v])).push (excO C hp.objs.size)).get? (hp.objs.size + 1) = some (excO C hp.objs.size) := by heap_get
  have hnx : K.lookup (hp.objs.size + 1) = none := by
    cases e : K.lookup (hp.objs.size + 1) with
    | none => rfl
    | some o =>
      have z : hp.get? (hp.objs.size + 1) = some o := X _ _ e
      exact absurd (Nat.lt_of_succ_lt (Heap.lt_size z)) (Nat.lt_irrefl _)
  refine call_own F.excBase_ValueError (fun X => refsVE_contains X bm hbm) (X _ _ hC) (looks_findIn X T.iC) (fun self => bind_fn X self T.tC) (one_size v) ?_
  refine xs_init_word (s := ⟨(hp.push (kdv_tup [v])).push (excO C hp.objs.size), g, dr, tk, os⟩) T (X.keeps k) (G.keeps k) (B.keeps k) hB (hlim.keeps k) hget hnx ?_ fun h' tk' dx t1 ⟨k', hx, dn, dne, hns⟩ => ?_
  · show A.depth + 1 < recursionLimit
    exact hroom
  · have old : ∀ b o, hp.get? b = some o → h'.get? b = some o := fun b o e => k' b o (Nat.ne_of_lt (Nat.lt_succ_of_lt (Heap.lt_size e))) (k b o e)
    have z : hp.objs.size + 1 + 1 ≤ dx := by
      first
        | (simpa only [Heap.size_push] using dn)
        | exact dn
        | (have q := dn; rw [Heap.size_push, Heap.size_push] at q; exact q)
    exact ⟨rfl, hq h' tk' (hp.objs.size + 1) dx ⟨old, Nat.le_succ _, ⟨_, _, hx, rfl, rfl, rfl, rfl, rfl, by simp⟩, Nat.le_trans (Nat.le_trans (Nat.le_succ _) (Nat.le_succ _)) z, dne, hns⟩⟩
theorem xs_init_place (T : XsTxt prog K mg x "place" C fI) {a t0 : Addr} {v : Value} (X : K.In s.heap) (G : s.heap.Ns mainGlobals mg) (B : s.heap.Ns builtinsNs mb) (hB : mb "super" = some (.type "super")) (hlim : s.heap.NoLimit) (ha : s.heap.get? a = some (excO C t0)) (hna : K.lookup a = none) (hroom : A.depth < recursionLimit)
    (hq : ∀ h' tk dx t1, InitEnd s.heap h' a C dx t1 "place" v → R (.ok (.ret .none)) { s with heap := h', toks := tk }) :
    codeAny (model prog w) A (.call (.ref fI) ⟨[.ref a, v], []⟩) R s := by
  obtain ⟨qual, oc, od, doc, pm, an, cda, cc, ct, osl, p1, p2, q0, q1, q2, q3, q4, q5, q6, q7, q8, q9, ccl, cdd, vs, ccs, file, tf, cl, cld, csl, ho, hcd, hcda, hvs, hfile, hcc, hln⟩ := T.fn
  obtain ⟨nm, q, N, bs, bm, sn, sub, ab, col, dd, k0, k1, k2, k3, k5, hC, hbm⟩ := T.cls
  have hcl : clsIn K C = some { name := nm, bases := bs, mro := .ref C :: bm, ns := N, qualname := q, hasDict := true, slotNames := sn, subclasses := sub, abstract := ab, collection := col, hasDel := false } := by unfold clsIn; rw [hC] <;> rfl
  have hns : mg "super" = none := mg_none_of X G T.sg
  refine ks_codeAny_call_defAt (fd := ksFn "__init__" qual (iA "place" p1 p2) (iB "place" q0 q1 q2 q3 q4 q5 q6 q7 q8 q9) (iS "place") .none .none doc pm an (.ref cda) ct cc) (body := iB "place" q0 q1 q2 q3 q4 q5 q6 q7 q8 q9)
    (binds := [("self", .ref a), ("place", v)]) hroom (X _ _ ho) rfl hlim (codeRec_of X hcd) rfl (BindsTo.of_eq (by first | rfl | with_unfolding_all rfl)) ?_ ?_ (fun h₁ hns₁ k₁ => ?_) rfl rfl rfl
  · intro y hy e
    have hy' : y ∈ [(PySem.Str.ofString "self", NameKind.local), ("place", .local), (PySem.Str.ofString "__class__", .free), (PySem.Str.ofString "super", .globalImplicit)] := hy
    simp only [List.mem_cons, List.not_mem_nil, or_false] at hy'
    rcases hy' with rfl | rfl | rfl | rfl <;> cases e
  · intro y hy
    rcases List.mem_cons.mp hy with rfl | hy
    · exact T.nm.l1
    · rcases List.mem_singleton.mp hy with rfl
      exact T.nm.l2
  have X₁ : K.In h₁ := X.keeps k₁
  have ha₁ := k₁ _ _ ha
  have hfl : ([("self", Value.ref a), ("place", v)] : List (Str × Value)).reverse.lookup ("place" : Str) = some v := by
    show ([("place", v), ("self", Value.ref a)] : List (Str × Value)).lookup ("place" : Str) = some v
    simp [List.lookup]
  have hsl : ([("self", Value.ref a), ("place", v)] : List (Str × Value)).reverse.lookup ("self" : Str) = some (.ref a) := by
    show ([("place", v), ("self", Value.ref a)] : List (Str × Value)).lookup ("self" : Str) = some (.ref a)
    have e : (("self" : Str) == ("place" : Str)) = false := by simpa using T.nm.ne
    simp [List.lookup, e]
  have I₁ : InstAt h₁ a (excO C t0) C none := ⟨ha₁, rfl, rfl, trivial⟩
  refine ks_wpAt_execs_cons (ks_wpAt_Expr_any (ks_wpAt_MethodCall ?_ (mc_eq hln)))
  refine ks_wpAt_super_base T.nm.l4 T.nm.l3 (by decide) rfl (X₁ _ _ ho) rfl rfl rfl (X₁ _ _ hcda) rfl hvs hfile T.top ?_
  refine ks_loadName_global rfl T.nm.l4 (loadGlobal_builtin (G.keeps k₁) hns (B.keeps k₁) hB ⟨rfl, ?_⟩)
  refine wpAny_loadName_free rfl T.nm.l3 (by rfl) ⟨_, X₁ _ _ hcc, rfl⟩ ?_
  refine wpAny_loadName_local rfl T.nm.l1 hns₁ hsl ?_
  refine ks_wpAny_isType_cls (X₁ _ _ hC) rfl ⟨rfl, ?_⟩
  refine ks_wpAny_call_super (X₁ _ _ hC) rfl I₁.at_ I₁.cls (fun c e => by cases e) (looks_mroIn X₁ T.mC) (fun h₂ e₂ k₂ => ?_)
  have X₂ : K.In h₂ := X₁.keeps k₂
  have ha₂ := k₂ _ _ ha₁
  have I₂ : InstAt h₂ a (excO C t0) C none := ⟨ha₂, rfl, rfl, trivial⟩
  have hf : alongIn K "__init__" (((Value.ref C :: bm).dropWhile (· != .ref C)).drop 1) = some (some (.builtin "ValueError.__init__")) := by
    have z := T.sup
    unfold ks_superIn at z
    rw [hcl] at z
    exact z
  have naC : a ≠ C := fun z => by rw [z, hC] at hna; cases hna
  refine kxs_getMethod kxs_ValueError e₂ (looks_opaque X₂ T.tp) (l₀ := .ref C :: bm) (fun A Q E s k q => wpAny_bind ((looks_clsIn X₂ hcl) A _ E s k (wpAny_pure q))) rfl X₂ hf (I₂.type.andThen (looks_subIn X₂ T.vC)) naC (by decide) ?_
  have k₃ : ∀ b o, h₂.get? b = some o → (h₂.push (kxs_mw "ValueError.__init__" a)).get? b = some o := fun b o e => Heap.get?_push_of_some _ e
  refine kxs_callWith (i := "ValueError.__init__") (x := a) rfl (evalArgs_plain ?_)
  have hns₂ : ((h₂.push (kxs_mw "ValueError.__init__" a)).Ns s.heap.objs.size fun x => ([("self", Value.ref a), ("place", v)] : List (Str × Value)).reverse.lookup x) := by
    obtain ⟨oL, es, ep, hL, r⟩ := hns₁
    exact ⟨oL, es, ep, k₃ _ _ (k₂ _ _ hL), r⟩
  refine Calls.spliced_cons (ESX.ldL (m := fun x => ([("self", Value.ref a), ("place", v)] : List (Str × Value)).reverse.lookup x) hns₂ hfl ?_ rfl T.nm.l2 T.nm.nd)
  refine Calls.spliced_nil ?_
  refine ⟨Heap.get?_push_size _ rfl, ?_⟩
  refine call_bw (k₃ _ _ (X₂ _ _ hC)) (k₃ _ _ ha₂) (Heap.get?_push_size _ rfl) (one_size v) (fun h₄ t1 k₄ ha₄ => ?_)
  have kall : ∀ b o, b ≠ a → s.heap.get? b = some o → h₄.get? b = some o := fun b o hb e => k₄ b o hb (k₃ _ _ (k₂ _ _ (k₁ _ _ e)))
  have X₄ : K.In h₄ := fun b o e => kall b o (fun z => by rw [z, hna] at e; cases e) (X b o e)
  have hL : s.heap.objs.size ≠ a := Nat.ne_of_gt (Heap.lt_size ha)
  have hns₄ : h₄.Ns s.heap.objs.size fun x => ([("self", Value.ref a), ("place", v)] : List (Str × Value)).reverse.lookup x := by
    obtain ⟨oL, es, ep, hL', r⟩ := hns₂
    exact ⟨oL, es, ep, k₄ _ _ hL hL', r⟩
  refine ks_wpAt_execs_cons (wpAt_of_wpAny (plainObj_wpAny_Assign_Attribute ?_))
  refine ESX.ldL (m := fun x => ([("self", Value.ref a), ("place", v)] : List (Str × Value)).reverse.lookup x) hns₄ hfl ?_ rfl T.nm.l2 T.nm.nd
  refine ESX.ldL (m := fun x => ([("self", Value.ref a), ("place", v)] : List (Str × Value)).reverse.lookup x) hns₄ hsl ?_ rfl T.nm.l1 (by decide)
  refine set_plain X₄ (ox := excO C t1) (od := none) ⟨ha₄, rfl, rfl, trivial⟩ T.sa ?_
  refine exc_osa X₄ ha₄ hcl (show refsVE (.ref C :: bm) = true from hbm) rfl T.noF (fun h₅ tk₅ dx k₅ dn dne hx₅ hn₅ => ?_)
  refine wpAt_of_wpAny (wpAny_execs_nil ?_)
  have zL : s.heap.objs.size < h₄.objs.size := hns₄.lt
  exact hq h₅ tk₅ dx t1 ⟨fun b o hb e => k₅ b o hb (kall b o hb e), hx₅, Nat.le_of_lt (Nat.lt_of_lt_of_le zL dn), dne, hn₅⟩
theorem xs_made_place (T : XsTxt prog K mg x "place" C fI) {v : Value} (X : K.In s.heap) (G : s.heap.Ns mainGlobals mg) (B : s.heap.Ns builtinsNs mb) (hB : mb "super" = some (.type "super")) (hlim : s.heap.NoLimit) (hroom : A.depth + 1 < recursionLimit)
    (hq : ∀ h' tk e d, OwnMade s.heap h' e C d "place" v → R (.ok (.ret (.ref e))) { s with heap := h', toks := tk }) :
    codeAny (model prog w) A (.call (.ref C) ⟨[v], []⟩) R s := by
  obtain ⟨nm, q, N, bs, bm, sn, sub, ab, col, dd, k0, k1, k2, k3, k5, hC, hbm⟩ := T.cls
  obtain ⟨hp, g, dr, tk, os⟩ := s
  have k : ∀ b o, hp.get? b = some o → ((hp.push (kdv_tup [v])).push (excO C hp.objs.size)).get? b = some o := fun b o e => Heap.get?_push_of_some _ (Heap.get?_push_of_some _ e)
  have hget : ((hp.push (kdv_tup [v])).push (excO C hp.objs.size)).get? (hp.objs.size + 1) = some (excO C hp.objs.size) := by heap_get
  have hnx : K.lookup (hp.objs.size + 1) = none := by
    cases e : K.lookup (hp.objs.size + 1) with
    | none => rfl
    | some o =>
      have z : hp.get? (hp.objs.size + 1) = some o := X _ _ e
      exact absurd (Nat.lt_of_succ_lt (Heap.lt_size z)) (Nat.lt_irrefl _)
  refine call_own F.excBase_ValueError (fun X => refsVE_contains X bm hbm) (X _ _ hC) (looks_findIn X T.iC) (fun self => bind_fn X self T.tC) (one_size v) ?_
  refine xs_init_place (s := ⟨(hp.push (kdv_tup [v])).push (excO C hp.objs.size), g, dr, tk, os⟩) T (X.keeps k) (G.keeps k) (B.keeps k) hB (hlim.keeps k) hget hnx ?_ fun h' tk' dx t1 ⟨k', hx, dn, dne, hns⟩ => ?_
  · show A.depth + 1 < recursionLimit
    exact hroom
  · have old : ∀ b o, hp.get? b = some o → h'.get? b = some o := fun b o e => k' b o (Nat.ne_of_lt (Nat.lt_succ_of_lt (Heap.lt_size e))) (k b o e)
    have z : hp.objs.size + 1 + 1 ≤ dx := by
      first
        | (simpa only [Heap.size_push] using dn)
        | exact dn
        | (have q := dn; rw [Heap.size_push, Heap.size_push] at q; exact q)
    exact ⟨rfl, hq h' tk' (hp.objs.size + 1) dx ⟨old, Nat.le_succ _, ⟨_, _, hx, rfl, rfl, rfl, rfl, rfl, by simp⟩, Nat.le_trans (Nat.le_trans (Nat.le_succ _) (Nat.le_succ _)) z, dne, hns⟩⟩
theorem xs_init_line (T : XsTxt prog K mg x "line" C fI) {a t0 : Addr} {v : Value} (X : K.In s.heap) (G : s.heap.Ns mainGlobals mg) (B : s.heap.Ns builtinsNs mb) (hB : mb "super" = some (.type "super")) (hlim : s.heap.NoLimit) (ha : s.heap.get? a = some (excO C t0)) (hna : K.lookup a = none) (hroom : A.depth < recursionLimit)
    (hq : ∀ h' tk dx t1, InitEnd s.heap h' a C dx t1 "line" v → R (.ok (.ret .none)) { s with heap := h', toks := tk }) :
    codeAny (model prog w) A (.call (.ref fI) ⟨[.ref a, v], []⟩) R s := by
  obtain ⟨qual, oc, od, doc, pm, an, cda, cc, ct, osl, p1, p2, q0, q1, q2, q3, q4, q5, q6, q7, q8, q9, ccl, cdd, vs, ccs, file, tf, cl, cld, csl, ho, hcd, hcda, hvs, hfile, hcc, hln⟩ := T.fn
  obtain ⟨nm, q, N, bs, bm, sn, sub, ab, col, dd, k0, k1, k2, k3, k5, hC, hbm⟩ := T.cls
  have hcl : clsIn K C = some { name := nm, bases := bs, mro := .ref C :: bm, ns := N, qualname := q, hasDict := true, slotNames := sn, subclasses := sub, abstract := ab, collection := col, hasDel := false } := by unfold clsIn; rw [hC] <;> rfl
  have hns : mg "super" = none := mg_none_of X G T.sg
  refine ks_codeAny_call_defAt (fd := ksFn "__init__" qual (iA "line" p1 p2) (iB "line" q0 q1 q2 q3 q4 q5 q6 q7 q8 q9) (iS "line") .none .none doc pm an (.ref cda) ct cc) (body := iB "line" q0 q1 q2 q3 q4 q5 q6 q7 q8 q9)
    (binds := [("self", .ref a), ("line", v)]) hroom (X _ _ ho) rfl hlim (codeRec_of X hcd) rfl (BindsTo.of_eq (by first | rfl | with_unfolding_all rfl)) ?_ ?_ (fun h₁ hns₁ k₁ => ?_) rfl rfl rfl
  · intro y hy e
    have hy' : y ∈ [(PySem.Str.ofString "self", NameKind.local), ("line", .local), (PySem.Str.ofString "__class__", .free), (PySem.Str.ofString "super", .globalImplicit)] := hy
    simp only [List.mem_cons, List.not_mem_nil, or_false] at hy'
    rcases hy' with rfl | rfl | rfl | rfl <;> cases e
  · intro y hy
    rcases List.mem_cons.mp hy with rfl | hy
    · exact T.nm.l1
    · rcases List.mem_singleton.mp hy with rfl
      exact T.nm.l2
  have X₁ : K.In h₁ := X.keeps k₁
  have ha₁ := k₁ _ _ ha
  have hfl : ([("self", Value.ref a), ("line", v)] : List (Str × Value)).reverse.lookup ("line" : Str) = some v := by
    show ([("line", v), ("self", Value.ref a)] : List (Str × Value)).lookup ("line" : Str) = some v
    simp [List.lookup]
  have hsl : ([("self", Value.ref a), ("line", v)] : List (Str × Value)).reverse.lookup ("self" : Str) = some (.ref a) := by
    show ([("line", v), ("self", Value.ref a)] : List (Str × Value)).lookup ("self" : Str) = some (.ref a)
    have e : (("self" : Str) == ("line" : Str)) = false := by simpa using T.nm.ne
    simp [List.lookup, e]
  have I₁ : InstAt h₁ a (excO C t0) C none := ⟨ha₁, rfl, rfl, trivial⟩
  refine ks_wpAt_execs_cons (ks_wpAt_Expr_any (ks_wpAt_MethodCall ?_ (mc_eq hln)))
  refine ks_wpAt_super_base T.nm.l4 T.nm.l3 (by decide) rfl (X₁ _ _ ho) rfl rfl rfl (X₁ _ _ hcda) rfl hvs hfile T.top ?_
  refine ks_loadName_global rfl T.nm.l4 (loadGlobal_builtin (G.keeps k₁) hns (B.keeps k₁) hB ⟨rfl, ?_⟩)
  refine wpAny_loadName_free rfl T.nm.l3 (by rfl) ⟨_, X₁ _ _ hcc, rfl⟩ ?_
  refine wpAny_loadName_local rfl T.nm.l1 hns₁ hsl ?_
  refine ks_wpAny_isType_cls (X₁ _ _ hC) rfl ⟨rfl, ?_⟩
  refine ks_wpAny_call_super (X₁ _ _ hC) rfl I₁.at_ I₁.cls (fun c e => by cases e) (looks_mroIn X₁ T.mC) (fun h₂ e₂ k₂ => ?_)
  have X₂ : K.In h₂ := X₁.keeps k₂
  have ha₂ := k₂ _ _ ha₁
  have I₂ : InstAt h₂ a (excO C t0) C none := ⟨ha₂, rfl, rfl, trivial⟩
  have hf : alongIn K "__init__" (((Value.ref C :: bm).dropWhile (· != .ref C)).drop 1) = some (some (.builtin "ValueError.__init__")) := by
    have z := T.sup
    unfold ks_superIn at z
    rw [hcl] at z
    exact z
  have naC : a ≠ C := fun z => by rw [z, hC] at hna; cases hna
  refine kxs_getMethod kxs_ValueError e₂ (looks_opaque X₂ T.tp) (l₀ := .ref C :: bm) (fun A Q E s k q => wpAny_bind ((looks_clsIn X₂ hcl) A _ E s k (wpAny_pure q))) rfl X₂ hf (I₂.type.andThen (looks_subIn X₂ T.vC)) naC (by decide) ?_
  have k₃ : ∀ b o, h₂.get? b = some o → (h₂.push (kxs_mw "ValueError.__init__" a)).get? b = some o := fun b o e => Heap.get?_push_of_some _ e
  refine kxs_callWith (i := "ValueError.__init__") (x := a) rfl (evalArgs_plain ?_)
  have hns₂ : ((h₂.push (kxs_mw "ValueError.__init__" a)).Ns s.heap.objs.size fun x => ([("self", Value.ref a), ("line", v)] : List (Str × Value)).reverse.lookup x) := by
    obtain ⟨oL, es, ep, hL, r⟩ := hns₁
    exact ⟨oL, es, ep, k₃ _ _ (k₂ _ _ hL), r⟩
  refine Calls.spliced_cons (ESX.ldL (m := fun x => ([("self", Value.ref a), ("line", v)] : List (Str × Value)).reverse.lookup x) hns₂ hfl ?_ rfl T.nm.l2 T.nm.nd)
  refine Calls.spliced_nil ?_
  refine ⟨Heap.get?_push_size _ rfl, ?_⟩
  refine call_bw (k₃ _ _ (X₂ _ _ hC)) (k₃ _ _ ha₂) (Heap.get?_push_size _ rfl) (one_size v) (fun h₄ t1 k₄ ha₄ => ?_)
  have kall : ∀ b o, b ≠ a → s.heap.get? b = some o → h₄.get? b = some o := fun b o hb e => k₄ b o hb (k₃ _ _ (k₂ _ _ (k₁ _ _ e)))
  have X₄ : K.In h₄ := fun b o e => kall b o (fun z => by rw [z, hna] at e; cases e) (X b o e)
  have hL : s.heap.objs.size ≠ a := Nat.ne_of_gt (Heap.lt_size ha)
  have hns₄ : h₄.Ns s.heap.objs.size fun x => ([("self", Value.ref a), ("line", v)] : List (Str × Value)).reverse.lookup x := by
    obtain ⟨oL, es, ep, hL', r⟩ := hns₂
    exact ⟨oL, es, ep, k₄ _ _ hL hL', r⟩
  refine ks_wpAt_execs_cons (wpAt_of_wpAny (plainObj_wpAny_Assign_Attribute ?_))
  refine ESX.ldL (m := fun x => ([("self", Value.ref a), ("line", v)] : List (Str × Value)).reverse.lookup x) hns₄ hfl ?_ rfl T.nm.l2 T.nm.nd
  refine ESX.ldL (m := fun x => ([("self", Value.ref a), ("line", v)] : List (Str × Value)).reverse.lookup x) hns₄ hsl ?_ rfl T.nm.l1 (by decide)
  refine set_plain X₄ (ox := excO C t1) (od := none) ⟨ha₄, rfl, rfl, trivial⟩ T.sa ?_
  refine exc_osa X₄ ha₄ hcl (show refsVE (.ref C :: bm) = true from hbm) rfl T.noF (fun h₅ tk₅ dx k₅ dn dne hx₅ hn₅ => ?_)
  refine wpAt_of_wpAny (wpAny_execs_nil ?_)
  have zL : s.heap.objs.size < h₄.objs.size := hns₄.lt
  exact hq h₅ tk₅ dx t1 ⟨fun b o hb e => k₅ b o hb (kall b o hb e), hx₅, Nat.le_of_lt (Nat.lt_of_lt_of_le zL dn), dne, hn₅⟩
theorem xs_made_line (T : XsTxt prog K mg x "line" C fI) {v : Value} (X : K.In s.heap) (G : s.heap.Ns mainGlobals mg) (B : s.heap.Ns builtinsNs mb) (hB : mb "super" = some (.type "super")) (hlim : s.heap.NoLimit) (hroom : A.depth + 1 < recursionLimit)
    (hq : ∀ h' tk e d, OwnMade s.heap h' e C d "line" v → R (.ok (.ret (.ref e))) { s with heap := h', toks := tk }) :
    codeAny (model prog w) A (.call (.ref C) ⟨[v], []⟩) R s := by
  obtain ⟨nm, q, N, bs, bm, sn, sub, ab, col, dd, k0, k1, k2, k3, k5, hC, hbm⟩ := T.cls
  obtain ⟨hp, g, dr, tk, os⟩ := s
  have k : ∀ b o, hp.get? b = some o → ((hp.push (kdv_tup [v])).push (excO C hp.objs.size)).get? b = some o := fun b o e => Heap.get?_push_of_some _ (Heap.get?_push_of_some _ e)
  have hget : ((hp.push (kdv_tup [v])).push (excO C hp.objs.size)).get? (hp.objs.size + 1) = some (excO C hp.objs.size) := by heap_get
  have hnx : K.lookup (hp.objs.size + 1) = none := by
    cases e : K.lookup (hp.objs.size + 1) with
    | none => rfl
    | some o =>
      have z : hp.get? (hp.objs.size + 1) = some o := X _ _ e
      exact absurd (Nat.lt_of_succ_lt (Heap.lt_size z)) (Nat.lt_irrefl _)
  refine call_own F.excBase_ValueError (fun X => refsVE_contains X bm hbm) (X _ _ hC) (looks_findIn X T.iC) (fun self => bind_fn X self T.tC) (one_size v) ?_
  refine xs_init_line (s := ⟨(hp.push (kdv_tup [v])).push (excO C hp.objs.size), g, dr, tk, os⟩) T (X.keeps k) (G.keeps k) (B.keeps k) hB (hlim.keeps k) hget hnx ?_ fun h' tk' dx t1 ⟨k', hx, dn, dne, hns⟩ => ?_
  · show A.depth + 1 < recursionLimit
    exact hroom
  · have old : ∀ b o, hp.get? b = some o → h'.get? b = some o := fun b o e => k' b o (Nat.ne_of_lt (Nat.lt_succ_of_lt (Heap.lt_size e))) (k b o e)
    have z : hp.objs.size + 1 + 1 ≤ dx := by
      first
        | (simpa only [Heap.size_push] using dn)
        | exact dn
        | (have q := dn; rw [Heap.size_push, Heap.size_push] at q; exact q)
    exact ⟨rfl, hq h' tk' (hp.objs.size + 1) dx ⟨old, Nat.le_succ _, ⟨_, _, hx, rfl, rfl, rfl, rfl, rfl, by simp⟩, Nat.le_trans (Nat.le_trans (Nat.le_succ _) (Nat.le_succ _)) z, dne, hns⟩⟩
end
end XsX
end PySem
end

section
namespace SH
open PySem PySem.Spec PyProof.Rows L2
/-- the class at C makes its errors: one value v, kept in the field f -/
structure XsOk (prog : Program) (w : World) (K : PySem.W.Frag) (mg : Str → Option Value) (x f : Str) (C : Addr) : Prop where
  made : ∀ (A : Around) (R : Result → Shared → Prop) (s : Shared) (mb : Str → Option Value) (v : Value), K.In s.heap → s.heap.Ns mainGlobals mg → s.heap.Ns builtinsNs mb → mb "super" = some (.type "super") → s.heap.NoLimit → A.depth + 1 < recursionLimit →
    (∀ h' tk e d, PySem.XsX.OwnMade s.heap h' e C d f v → R (.ok (.ret (.ref e))) { s with heap := h', toks := tk }) → codeAny (model prog w) A (.call (.ref C) ⟨[v], []⟩) R s
  gC : mg x = some (.ref C)
  kC : PySem.W.keepIn K (.ref C) = true
  exC : PySem.W.subIn K (.ref C) (.type "BaseException") = some true
  tyC : PySem.W.typeIn K (.ref C) = some (.type "type")
theorem relO_one {v : V} {v' : Value} {g : Str} (r : RelV v v') (f : Str) : RelO (List.lookup f [(g, v)]) (if f = g then some v' else none) := by
  by_cases hw : f = g
  · subst hw
    rw [if_pos rfl]
    have q : List.lookup f [(f, v)] = some v := by simp [List.lookup]
    rw [q]
    exact r
  · rw [if_neg hw]
    have qw : (f == g) = false := by simpa using hw
    have q2 : List.lookup f [(g, v)] = none := by simp [List.lookup, qw]
    rw [q2]
    trivial
/-- x(e) -/
def tXs (C : Addr) (f : Str) (ta : TA) : L2.St → Hp → XK → Prop := fun σ H Q => ta σ H fun vs H1 => ∃ v, vs = [v] ∧ ∀ d, H1 d = none → Q (.ref C) (some d) (upd H1 d (.xd [(f, v)]))
section
variable {X : Cx} {C : Addr} {x f : Str}
theorem pmk_xs {a : Expr} {ta : TA} {p pos : Pos} (T : XsOk X.prog X.w X.K X.mg x f C) (hr : Room 0 X.A) (ha : PA X [a] ta) (hg : Gl X x := by rfl) (hdb : (x == ("__debug__" : Str)) = false := by decide)
    (he : starEach (a :: []) X.env = (false, eval a X.env) :: starEach [] X.env := by rfl) (hpl : (backTo pos (starEach [] X.env)).any (·.1) = false := by rfl) :
    L2N.PMk X (.Call (.Name x p) [a] [] pos) (tXs C f ta) := by
  intro pins s σ H Q I h
  refine wpAny_Call_Name_kw (ld_glob I hg T.gC ?_ hdb)
  refine PySem.W.callWith_K (h₀ := X.base) I.ok.mod.kin T.kC (thn (ha.run pos pins s σ H _ I h) fun us s1 hh => ?_) he hpl
  obtain ⟨vs, H1, I1, r1, v, ev, q1⟩ := hh
  subst ev
  refine ⟨I1.kIn, ?_⟩
  cases r1 with
  | cons rv rn =>
    rename_i v' us'
    cases rn
    show wpAny _ _ (call (.ref C) [v']) _ _ _
    have hlim := I1.nolimit
    obtain ⟨mb, b1, b2⟩ := I1.mod.blt
    have hGl := I1.mod.glob.keeps I1.bk
    have hBl := b1.keeps I1.bk
    have hsu : mb "super" = some (.type "super") := (b2 "super" (by decide)).trans (by decide +kernel)
    obtain ⟨hp, g, dr, tk, os⟩ := s1
    refine wpAny_call (T.made X.A _ _ mb v' I1.kIn hGl hBl hsu hlim (by have := hr.dp; omega) fun h' tk' e d M => ?_)
    show L2N.MkP X pins σ Q (.ref e) ⟨h', g, dr, tk', os⟩
    obtain ⟨oe, fv, hoe, hc, hd, hdat, h1, h2, h5⟩ := M.obj
    have hns := M.ns
    obtain ⟨G', g1, g2⟩ := restrict h' fun b => decide (b ≠ e)
    have gk : ∀ b, b ≠ e → G'.get? b = h'.get? b := fun b hb => g1 b (decide_eq_true hb)
    have ge : G'.get? e = none := g2 e (by simp)
    have old : ∀ b o, hp.get? b = some o → G'.get? b = some o := fun b o q => (gk b (Nat.ne_of_lt (Nat.lt_of_lt_of_le (Heap.lt_size q) M.new))).trans (M.keep b o q)
    have ob : ObjOk X.prog X.w (upd H1 d (.xd [(f, v)])) G' d (.xd [(f, v)]) :=
      ⟨_, hns.at (fun o q => (gk d M.dne).trans q), fun g => relO_one rv g⟩
    have J : Inv X pins σ (upd H1 d (.xd [(f, v)])) ⟨G', g, dr, tk', os⟩ := I1.laid (t' := tk') old M.dbig ob
    refine ⟨e, oe, fv, ⟨G', g, dr, tk', os⟩, _, .ref C, some d, rfl, J, fun b o q => ?_, ge, hoe, ⟨hc, hd, fun vs e => by rw [hdat] at e; cases e; exact h2⟩, hdat, h1, ?_, rfl, I1.bare, raises_own T.exC T.tyC, q1 d (I1.hok.fresh M.dbig)⟩
    · by_cases hb : b = e
      · have q' : G'.get? b = some o := q
        rw [hb, ge] at q'; cases q'
      · exact (gk b hb).symm.trans q
    · rw [upd_ne (Ne.symm M.dne)]
      exact I1.hok.fresh M.new
/-- raise x(e) -/
def tRaiseXs (C : Addr) (f : Str) (W : WX) (ta : TA) : TS := fun _ σ H => tXs C f ta σ H fun cls d H' => W cls d σ H'
theorem ps_raiseXs {a : Expr} {ta : TA} {W : WX} {p pos pos2 : Pos} (hc : X.calm = true) (T : XsOk X.prog X.w X.K X.mg x f C) (hr : Room 0 X.A) (tk : L2N.Takes X W) (ha : PA X [a] ta) (hg : Gl X x := by rfl) (hdb : (x == ("__debug__" : Str)) = false := by decide)
    (he : starEach (a :: []) X.env = (false, eval a X.env) :: starEach [] X.env := by rfl) (hpl : (backTo pos (starEach [] X.env)).any (·.1) = false := by rfl) :
    PS X (.Raise (some (.Call (.Name x p) [a] [] pos)) none pos2) (tRaiseXs C f W ta) := L2N.ps_raise hc tk (pmk_xs T hr ha hg hdb he hpl)
end
section
variable {σ : L2.St} {H : Hp} {C : Addr} {f : Str} {W : WX} {ta : TA} {v : V} {N R Bk Ct}
theorem g_raise (q : ta σ H fun vs H1 => ∃ v, vs = [v] ∧ ∀ d, H1 d = none → W (.ref C) (some d) σ (upd H1 d (.xd [(f, v)]))) : tRaiseXs C f W ta ⟨N, R, Bk, Ct⟩ σ H := q
theorem g_rs {M : V → Prop} (q : M v) : ∃ v', [v] = [v'] ∧ M v' := ⟨v, rfl, q⟩
end
end SH
namespace SH
open PySem PySem.Spec PyProof.Rows L2
theorem nm_name : PySem.XsX.NmOk "name" := ⟨by decide +kernel, by decide +kernel, by decide +kernel, by decide +kernel, by decide +kernel, by decide +kernel⟩
theorem xsok_name {prog : Program} {w : World} {K : PySem.W.Frag} {mg : Str → Option Value} {x : Str} {C fI : Addr} (T : PySem.XsX.XsTxt prog K mg x "name" C fI) : XsOk prog w K mg x "name" C where
  made := fun A R s mb v X G B hB hl hr hq => PySem.XsX.xs_made_name T X G B hB hl hr hq
  gC := T.gC
  kC := T.kC
  exC := T.exC
  tyC := T.tyC
theorem nm_word : PySem.XsX.NmOk "word" := ⟨by decide +kernel, by decide +kernel, by decide +kernel, by decide +kernel, by decide +kernel, by decide +kernel⟩
theorem xsok_word {prog : Program} {w : World} {K : PySem.W.Frag} {mg : Str → Option Value} {x : Str} {C fI : Addr} (T : PySem.XsX.XsTxt prog K mg x "word" C fI) : XsOk prog w K mg x "word" C where
  made := fun A R s mb v X G B hB hl hr hq => PySem.XsX.xs_made_word T X G B hB hl hr hq
  gC := T.gC
  kC := T.kC
  exC := T.exC
  tyC := T.tyC
theorem nm_place : PySem.XsX.NmOk "place" := ⟨by decide +kernel, by decide +kernel, by decide +kernel, by decide +kernel, by decide +kernel, by decide +kernel⟩
theorem xsok_place {prog : Program} {w : World} {K : PySem.W.Frag} {mg : Str → Option Value} {x : Str} {C fI : Addr} (T : PySem.XsX.XsTxt prog K mg x "place" C fI) : XsOk prog w K mg x "place" C where
  made := fun A R s mb v X G B hB hl hr hq => PySem.XsX.xs_made_place T X G B hB hl hr hq
  gC := T.gC
  kC := T.kC
  exC := T.exC
  tyC := T.tyC
theorem nm_line : PySem.XsX.NmOk "line" := ⟨by decide +kernel, by decide +kernel, by decide +kernel, by decide +kernel, by decide +kernel, by decide +kernel⟩
theorem xsok_line {prog : Program} {w : World} {K : PySem.W.Frag} {mg : Str → Option Value} {x : Str} {C fI : Addr} (T : PySem.XsX.XsTxt prog K mg x "line" C fI) : XsOk prog w K mg x "line" C where
  made := fun A R s mb v X G B hB hl hr hq => PySem.XsX.xs_made_line T X G B hB hl hr hq
  gC := T.gC
  kC := T.kC
  exC := T.exC
  tyC := T.tyC
end SH
end

section
namespace SH
open PySem PySem.Spec PyProof.Rows L2
/-! #### try .. except .. whose suites raise an own error «from None» -/
section
variable {X : Cx} {C : Addr} {x f : Str}
theorem pmk_xs5 {a : Expr} {ta : TA} {p pos : Pos} (T : XsOk X.prog X.w X.K X.mg x f C) (hdp : X.A.depth + 1 < recursionLimit) (ha : PA X [a] ta) (hg : Gl X x := by rfl) (hdb : (x == ("__debug__" : Str)) = false := by decide)
    (he : starEach (a :: []) X.env = (false, eval a X.env) :: starEach [] X.env := by rfl) (hpl : (backTo pos (starEach [] X.env)).any (·.1) = false := by rfl) :
    L2H.PMk5 X (.Call (.Name x p) [a] [] pos) (tXs C f ta) := by
  intro pins s σ H Q I h
  refine wpAny_Call_Name_kw (ld_glob I hg T.gC ?_ hdb)
  refine PySem.W.callWith_K (h₀ := X.base) I.ok.mod.kin T.kC (thn (ha.run pos pins s σ H _ I h) fun us s1 hh => ?_) he hpl
  obtain ⟨vs, H1, I1, r1, v, ev, q1⟩ := hh
  subst ev
  refine ⟨I1.kIn, ?_⟩
  cases r1 with
  | cons rv rn =>
    rename_i v' us'
    cases rn
    show wpAny _ _ (call (.ref C) [v']) _ _ _
    have hlim := I1.nolimit
    obtain ⟨mb, b1, b2⟩ := I1.mod.blt
    have hGl := I1.mod.glob.keeps I1.bk
    have hBl := b1.keeps I1.bk
    have hsu : mb "super" = some (.type "super") := (b2 "super" (by decide)).trans (by decide +kernel)
    obtain ⟨hp, g, dr, tk, os⟩ := s1
    refine wpAny_call (T.made X.A _ _ mb v' I1.kIn hGl hBl hsu hlim hdp fun h' tk' e d M => ?_)
    show L2N.MkP X pins σ Q (.ref e) ⟨h', g, dr, tk', os⟩ ∧ L2H.Six (.ref e) ⟨h', g, dr, tk', os⟩
    refine ⟨?_, fun a2 oe2 vs2 ea hg2 hd2 => ?six⟩
    case six =>
      cases ea
      obtain ⟨oe, fv, hoe, hc, hd, hdat, h1, h2, h5⟩ := M.obj
      have z : h'.get? e = some oe2 := hg2
      rw [hoe] at z
      cases z
      rw [hdat] at hd2
      cases hd2
      exact h5
    obtain ⟨oe, fv, hoe, hc, hd, hdat, h1, h2, h5⟩ := M.obj
    have hns := M.ns
    obtain ⟨G', g1, g2⟩ := restrict h' fun b => decide (b ≠ e)
    have gk : ∀ b, b ≠ e → G'.get? b = h'.get? b := fun b hb => g1 b (decide_eq_true hb)
    have ge : G'.get? e = none := g2 e (by simp)
    have old : ∀ b o, hp.get? b = some o → G'.get? b = some o := fun b o q => (gk b (Nat.ne_of_lt (Nat.lt_of_lt_of_le (Heap.lt_size q) M.new))).trans (M.keep b o q)
    have ob : ObjOk X.prog X.w (upd H1 d (.xd [(f, v)])) G' d (.xd [(f, v)]) :=
      ⟨_, hns.at (fun o q => (gk d M.dne).trans q), fun g => relO_one rv g⟩
    have J : Inv X pins σ (upd H1 d (.xd [(f, v)])) ⟨G', g, dr, tk', os⟩ := I1.laid (t' := tk') old M.dbig ob
    refine ⟨e, oe, fv, ⟨G', g, dr, tk', os⟩, _, .ref C, some d, rfl, J, fun b o q => ?_, ge, hoe, ⟨hc, hd, fun vs e => by rw [hdat] at e; cases e; exact h2⟩, hdat, h1, ?_, rfl, I1.bare, raises_own T.exC T.tyC, q1 d (I1.hok.fresh M.dbig)⟩
    · by_cases hb : b = e
      · have q' : G'.get? b = some o := q
        rw [hb, ge] at q'; cases q'
      · exact (gk b hb).symm.trans q
    · rw [upd_ne (Ne.symm M.dne)]
      exact I1.hok.fresh M.new
def tRaiseXs5 (C : Addr) (f : Str) (W : WX) (ta : TA) : TS := fun _ σ H => tXs C f ta σ H fun cls d H' => W cls d σ H'
/-- raise x(e) from None, in an except suite -/
theorem ps_raiseHX {a : Expr} {ta : TA} {W : WX} {p pos pos2 cpos : Pos} {j : Nat} (hot : L2H.HotC X) (T : XsOk X.prog X.w X.K X.mg x f C) (hdp : X.A.depth + 1 < recursionLimit) (tk : L2.Takes X W) (ha : PA X [a] ta) (hg : Gl X x := by rfl) (hdb : (x == ("__debug__" : Str)) = false := by decide)
    (he : starEach (a :: []) X.env = (false, eval a X.env) :: starEach [] X.env := by rfl) (hpl : (backTo pos (starEach [] X.env)).any (·.1) = false := by rfl) :
    PS X (.Raise (some (.Call (.Name x p) [a] [] pos)) (some (.Constant .none j cpos)) pos2) (tRaiseXs5 C f W ta) := L2H.ps_raiseHN hot tk (pmk_xs5 T hdp ha hg hdb he hpl)
end
/-- the clauses, their suites may raise; each exception of the body is named by one -/
inductive HdsX (X : Cx) (Wout : WX) : List ExceptHandler → List (Value × (Addr → Value → Option Addr → TS)) → Prop
  | nil : HdsX X Wout [] []
  | cons {x : Str} {c : Value} {ts : Addr → Value → Option Addr → TS} {b₀ : Stmt} {suite : List Stmt} {np pos' : Pos} {hds : List ExceptHandler} {l : List (Value × (Addr → Value → Option Addr → TS))} (hc : Names X x c)
      (hsu : ∀ (a : Addr) (oe : Obj) (cls : Value) (d : Option Addr) (pn : List (Addr × Obj)), L2N.Zn cls d oe → (∃ vs, oe.data = .fields vs) → L2.Takes (L2H.suiteX X a ((a, oe) :: pn)) Wout → L2H.HotC (L2H.suiteX X a ((a, oe) :: pn)) →
        PSs (L2H.suiteX X a ((a, oe) :: pn)) (b₀ :: suite) (ts a cls d)) (r : HdsX X Wout hds l) : HdsX X Wout (.ExceptHandler (some (.Name x np)) none (b₀ :: suite) pos' :: hds) ((c, ts) :: l)
def tTryX (K : PySem.W.Frag) (tb : WX → TS) (l : List (Value × (Addr → Value → Option Addr → TS))) : TS := fun D σ H => tb (wMany K (fun _ _ _ _ => False) D l) D σ H
theorem ps_tryX {X : Cx} {K : PySem.W.Frag} {body : List Stmt} {h₀ : ExceptHandler} {hds : List ExceptHandler} {l : List (Value × (Addr → Value → Option Addr → TS))} {pos : Pos} {tb : WX → TS} {Wout : WX} (hK : X.K = K) (hs : X.stack = X.env :: X.outer) (hf : X.env.frame = some X.env.locals)
    (hpa : ∀ hd : Option Value, PassesOwnAt (model X.prog X.w) (X.A.mark hd) X.A X.env X.xe) (tk : L2.Takes X Wout)
    (hb : ∀ (W : WX) (pn : List (Addr × Obj)) (xe : Value → Shared → Prop), L2N.Takes (X.tr pn xe) W → PassesOwn (model X.prog X.w) X.A X.env xe → PSs (X.tr pn xe) body (tb W))
    (hh : HdsX X Wout (h₀ :: hds) l) : PS X (.Try body (h₀ :: hds) [] [] pos) (tTryX K tb l) := by
  subst hK
  constructor
  intro pins s σ H D I h
  have ok := I.ok
  have frs0 : X.A.frames = some (X.env :: X.outer) := by rw [ok.frames, hs]
  apply wpAny_Try_except
  have bodyRun := (hb (wMany X.K (fun _ _ _ _ => False) D l) (X.pn ++ pins) (fun e s₁ => wpAny (model X.prog X.w) X.A (noteFrame e X.env) (fun _ s₂ => wpAny (model X.prog X.w) X.A (setFlight e none) (fun _ s₃ => wpAny (model X.prog X.w) X.A (handleBy e X.env (h₀ :: hds)) (SP X pins D) X.xe s₃) X.xe s₂) X.xe s₁)
    ?cc PassesOwn.looking).run [] s σ H D (I.toTry _) h
  case cc =>
    rintro u s' ⟨a, B, sI, pins', σ', H', cls, d, rfl, J', nb, up, sky, na, os, ag, w⟩
    have J : Inv X pins σ' H' sI := J'.ofTry ok
    rw [show (X.tr (X.pn ++ pins) _).stack = X.stack from rfl, hs] at sky
    refine L2N.Sky.land L2N.Zn.steady frs0 hf sky ?_
    intro h3 fl3 up3
    have J3 : Inv X pins σ' H' { s' with heap := h3 } := J.landed nb fl3.1 (up.trans up3) os ag
    obtain ⟨oe3, vs3, he3, hz3, hd3⟩ := fl3.there
    have nfr : a ∉ frs (X.env :: X.outer) := by
      intro hm
      obtain ⟨_, o', e', hnf⟩ := fl3.2.2.1.mem hm
      cases he3.symm.trans e'
      exact hnf _ hd3
    have nL : a ≠ X.env.locals := by
      rintro rfl
      exact nfr (List.mem_filterMap.mpr ⟨X.env, List.mem_cons_self, hf⟩)
    have nF : a ∉ X.fs := by
      intro hm
      obtain ⟨e, he, q⟩ := List.mem_filterMap.mp hm
      exact nfr (List.mem_filterMap.mpr ⟨e, List.mem_cons_of_mem _ he, q⟩)
    have S3 := J3.suite he3 hd3 na nL nF
    suffices go : ∀ (hds' : List ExceptHandler) (l' : List (Value × (Addr → Value → Option Addr → TS))), HdsX X Wout hds' l' → wMany X.K (fun _ _ _ _ => False) D l' cls d σ' H' →
        wpAny (model X.prog X.w) X.A (handleBy (.ref a) X.env hds') (SP X pins D) X.xe { s' with heap := h3 } from go _ _ hh w
    intro hds' l' hk
    induction hk with
    | nil => exact fun w => w.elim
    | @cons x c ts b₀ suite np pos' hds2 l2 hc hsu r ih =>
      rintro ⟨b, hb1, hyes, hno⟩
      refine wpAny_handleBy_cons (codeAny_handlers_test ?_) (by intro q; cases q)
      have looks : PySem.W.Looks (model X.prog X.w) h3 (typeOf (.ref a)) cls := fun A Q E s k q => wpAny_typeOf_ref (k _ _ he3) (by rw [hz3.1]; exact q)
      have LM := PySem.W.exm_one (M := model X.prog X.w) (J3.kIn) looks hb1
      have test : ∀ {Q E : Value → Shared → Prop}, Q c { s' with heap := h3 } → wpAny (model X.prog X.w) (X.A.mark (some (.ref a))) (eval (.Name x np) X.env) Q E { s' with heap := h3 } := by
        intro Q E q
        obtain ⟨hg, hdbg, hm | ⟨hm, hv, hnn⟩⟩ := hc
        · exact ld_glob (X := X.suite a ((a, oe3) :: (X.pn ++ pins))) S3 hg hm q hdbg
        · exact ld_blt (X := X.suite a ((a, oe3) :: (X.pn ++ pins))) S3 hg hm hv q hnn hdbg
      refine test (LM.here ?_)
      rcases b with _ | _
      · show wpAny _ X.A (handleBy (.ref a) X.env hds2) _ _ _
        exact ih (hno rfl)
      · refine codeAny_handlers_suite (HandSPX.lands_againZ fl3 ?_)
        intro h4 fl4 up4
        have J4 : Inv X pins σ' H' { s' with heap := h4 } := J.landed nb fl4.1 ((up.trans up3).trans up4) os ag
        obtain ⟨oe4, vs4, he4, hz4, hd4⟩ := fl4.there
        have S4 := J4.suite he4 hd4 na nL nF
        have tkS : L2.Takes (L2H.suiteX X a ((a, oe4) :: (X.pn ++ pins))) Wout := by
          rintro u2 s2 ⟨a2, B2, sI2, pn2, σ2, H2, cls2, d2, e2, I2, nb2, up2, sky2, na2, os2, ag2, w2⟩
          exact tk u2 s2 ⟨a2, B2, sI2, pins, σ2, H2, cls2, d2, e2, L2H.unsuiteX I2 ok, nb2, up2, sky2, na2, os2, ag2, w2⟩
        have hot : L2H.HotC (L2H.suiteX X a ((a, oe4) :: (X.pn ++ pins))) := ⟨(a, oe4), ⟨rfl, vs4, hd4, hz4.2.2 vs4 hd4⟩, List.mem_cons_self⟩
        refine wpAny_mono ((hsu a oe4 cls d (X.pn ++ pins) hz4 ⟨_, hd4⟩ tkS hot).run [] _ _ H' _ (L2H.suiteX_of S4) (hyes rfl a na)) ?_ (fun e6 s6 z => hpa (some (.ref a)) e6 s6 z)
        intro fl s6 z
        match fl, z with
        | .next, ⟨σ6, H6, S6, q6⟩ => exact ⟨_, _, L2H.unsuiteX S6 ok, q6⟩
        | .brk, ⟨σ6, H6, S6, q6⟩ => exact ⟨_, _, L2H.unsuiteX S6 ok, q6⟩
        | .cont, ⟨σ6, H6, S6, q6⟩ => exact ⟨_, _, L2H.unsuiteX S6 ok, q6⟩
        | .ret u, ⟨v6, σ6, H6, S6, r6, q6⟩ => exact ⟨_, _, _, L2H.unsuiteX S6 ok, r6, q6⟩
  refine wpAny_mono bodyRun ?_ (fun _ _ z => z)
  intro fl s1 z
  match fl, z with
  | .next, ⟨σ', H', J', q⟩ => exact wpAny_execs_nil ⟨σ', H', J'.ofTry ok, q⟩
  | .brk, ⟨σ', H', J', q⟩ => exact ⟨σ', H', J'.ofTry ok, q⟩
  | .cont, ⟨σ', H', J', q⟩ => exact ⟨σ', H', J'.ofTry ok, q⟩
  | .ret u, ⟨v, σ', H', J', r, q⟩ => exact ⟨v, σ', H', J'.ofTry ok, r, q⟩
/-! #### defs whose errors may bear a context -/
theorem sky_down {B : Heap} {l : List Env} {a L : Addr} {cls : Value} {d : Option Addr} {h : Heap} (x : Sky B l a (L2N.Zn cls d) L h) : Sky B l a (Zc cls d) L h := by
  have tr : ∀ {fl : Value}, HandSPX.TracedZ h B a (L2N.Zn cls d) fl → HandSPX.TracedZ h B a (Zc cls d) fl := fun t => L2H.tracedZ_imp (fun _ z => z.zc) t
  rcases x with ⟨h1, h2, h3, oe, vs, h4, h5, h6, h7⟩ | ⟨h1, h2, h3, h4⟩ | ⟨h1, h2, h3, h4⟩
  · exact .inl ⟨h1, h2, h3, oe, vs, h4, h5.zc, h6, h7⟩
  · exact .inr (.inl ⟨h1, h2, h3, tr h4⟩)
  · exact .inr (.inr ⟨h1, h2, h3, tr h4⟩)
theorem takes_down {X : Cx} {W : WX} (tk : L2.Takes X W) : L2N.Takes X W := by
  rintro u s' ⟨a, B, sI, pins, σ, H, cls, d, e, I, nb, up, sky, na, os, ag, w⟩
  exact tk u s' ⟨a, B, sI, pins, σ, H, cls, d, e, I, nb, up, sky_down sky, na, os, ag, w⟩
theorem takes00 {X : Cx} : L2.Takes X (fun _ _ _ _ => False) := by
  rintro u s' ⟨_, _, _, _, _, _, _, _, _, _, _, _, _, _, _, _, q⟩
  exact q.elim
theorem room_dp {k : Nat} {A : Around} (r : Room k A) : A.depth + 1 < recursionLimit := by have := r.dp; omega
def DefC (P : Program) (w : World) (K : PySem.W.Frag) (mg : Str → Option Value) (base : Heap) (x : Str) (k : Nat) (ps : List Str) (sp : Sp) : Prop :=
  ∃ f fd, FnOk P w K mg base (L2.CX P w) k f fd ps sp ∧ mg x = some (.ref f) ∧ PySem.W.keepIn K (.ref f) = true ∧ Binds K fd ps []
section
variable {P : Program} {w : World} {K : PySem.W.Frag} {mg : Str → Option Value} {base : Heap} {x : Str} {st : Stmt} {N ps : List Str} {k : Nat} {sp : Sp}
theorem TopD.okC (T : TopD K mg x st) (S : FnScope N ps (defScope st))
    (hb : ∀ (kV doc pm : Value) (an : Option Addr) (cdv ct : Value) (us : List Value), us.length = ps.length → bindArgs (PySem.W.fnOf x x (defArgs st) (defBody st) (defScope st) .none kV doc pm an cdv ct) ⟨us, []⟩ = pure (ps.zip us))
    (len : ∀ vs H Q E, sp vs H Q E → vs.length = ps.length)
    (hbody : ∀ (f : Addr) (cdv : Value) (A : Around) (outer : List Env) (s : Shared) (H : Hp) (vs : List V) (Q : VK) (E : XK), Room k (A.deeper (envOfC x (defScope st) s.heap.objs.size f cdv)) → sp vs H Q E →
      ∃ t, PSs (cxOf (L2.CX P w) P w K mg base N x (defScope st) f cdv A outer s H E) (defBody st) t ∧ t { nx := fun _ H' => Q .non H', rt := Q } (start N vs) H) : DefC P w K mg base x (k + 1) ps sp := by
  obtain ⟨f, fd, F, hm⟩ := T
  exact ⟨f, fd, F.ok S len fun cdv A outer s H vs Q E hr h => hbody f cdv A outer s H vs Q E hr h, hm, F.kp, F.bindsN hb⟩
end
section
variable {X : Cx} {x : Str} {k : Nat} {ps : List Str} {sp : Sp} {E : XK} {W : WX} {p pos : Pos} {e : Expr} {es : List Expr} {t : TA}
theorem pe_dfC (D : DefC X.prog X.w X.K X.mg X.base x k ps sp) (hr : Room k X.A) (hx : Passes (L2.CX X.prog X.w) X E) (ha : PA X (e :: es) t) (hg : Gl X x := by rfl) (hdb : (x == ("__debug__" : Str)) = false := by decide)
    (hs : starEach (e :: es) X.env = (false, eval e X.env) :: starEach es X.env := by rfl) (hp : (backTo pos (starEach es X.env)).any (·.1) = false := by rfl) : PE X (.Call (.Name x p) (e :: es) [] pos) (tCall sp [] E t) := by
  obtain ⟨f, fd, F, hm, hk, hb⟩ := D
  exact pe_call F hr hg hm hk hb .nil hx ha hdb hs hp
theorem pe_dfCS (D : DefC X.prog X.w X.K X.mg X.base x k ps sp) (hr : Room k X.A) (tk : L2.Takes X W) (ha : PA X (e :: es) t) (hg : Gl X x := by rfl) (hdb : (x == ("__debug__" : Str)) = false := by decide)
    (hs : starEach (e :: es) X.env = (false, eval e X.env) :: starEach es X.env := by rfl) (hp : (backTo pos (starEach es X.env)).any (·.1) = false := by rfl) : PE X (.Call (.Name x p) (e :: es) [] pos) (tCallS sp (WE W) t) := by
  obtain ⟨f, fd, F, hm, hk, hb⟩ := D
  exact pe_callS F hr hg hm hk hb (fun σ => L2.passAt tk σ) ha hdb hs hp
end
def tTryOnlyC (K : PySem.W.Frag) (c : Value) (tb : WX → TS) (ts : Addr → Value → Option Addr → TS) (Wout : WX) : TS := fun D σ H => tb (wOnly K c ts Wout D) D σ H
theorem ps_tryOnlyC {X : Cx} {K : PySem.W.Frag} {x : Str} {c : Value} {body suite : List Stmt} {b₀ : Stmt} {np pos pos' : Pos} {tb : WX → TS} {ts : Addr → Value → Option Addr → TS} {Wout : WX} (hK : X.K = K) (hs : X.stack = X.env :: X.outer) (hf : X.env.frame = some X.env.locals) (hc : Names X x c) (tk : L2.Takes X Wout)
    (hb : ∀ (W : WX) (pn : List (Addr × Obj)) (xe : Value → Shared → Prop), L2.Takes (X.tr pn xe) W → PassesOwn (model X.prog X.w) X.A X.env xe → PSs (X.tr pn xe) body (tb W))
    (hsu : ∀ (a : Addr) (oe : Obj) (cls : Value) (d : Option Addr) (pn : List (Addr × Obj)), Zc cls d oe → (∃ vs, oe.data = .fields vs) → PSs (X.suite a ((a, oe) :: pn)) (b₀ :: suite) (ts a cls d)) :
    PS X (.Try body [.ExceptHandler (some (.Name x np)) none (b₀ :: suite) pos'] [] [] pos) (tTryOnlyC K c tb ts Wout) := by
  subst hK
  exact ps_try_only hs hf hc tk hb hsu
section
variable {K : PySem.W.Frag} {σ : L2.St} {H : Hp} {C : Addr} {f : Str} {W Wout : WX} {ta : TA} {v : V} {N : L2.St → Hp → Prop} {R : VK} {Bk Ct : L2.St → Hp → Prop} {c : Value} {tb : WX → TS} {ts : Addr → Value → Option Addr → TS} {D : Ends} {d : Option Addr} {l : List (Value × (Addr → Value → Option Addr → TS))}
theorem g_tryX (q : tb (wMany K (fun _ _ _ _ => False) ⟨N, R, Bk, Ct⟩ l) ⟨N, R, Bk, Ct⟩ σ H) : tTryX K tb l ⟨N, R, Bk, Ct⟩ σ H := q
theorem g_tryOC (q : tb (wOnly K c ts Wout ⟨N, R, Bk, Ct⟩) ⟨N, R, Bk, Ct⟩ σ H) : tTryOnlyC K c tb ts Wout ⟨N, R, Bk, Ct⟩ σ H := q
theorem g_many1 (e : PySem.W.exmOne K (.ref C) c = some true) (q : ∀ a, H a = none → ts a (.ref C) d D σ H) : WE (wMany K Wout D ((c, ts) :: l)) σ (.ref C) d H := ⟨true, e, fun _ => q, fun z => Bool.noConfusion z⟩
theorem g_many2 (e : PySem.W.exmOne K (.ref C) c = some false) (q : WE (wMany K Wout D l) σ (.ref C) d H) : WE (wMany K Wout D ((c, ts) :: l)) σ (.ref C) d H := ⟨false, e, fun z => Bool.noConfusion z, fun _ => q⟩
theorem g_only1 (e : PySem.W.exmOne K (.ref C) c = some true) (q : ∀ a, H a = none → ts a (.ref C) d D σ H) : WE (wOnly K c ts Wout D) σ (.ref C) d H := ⟨true, e, fun _ => q, fun z => Bool.noConfusion z⟩
theorem g_raise5 (q : ta σ H fun vs H1 => ∃ v, vs = [v] ∧ ∀ d, H1 d = none → W (.ref C) (some d) σ (upd H1 d (.xd [(f, v)]))) : tRaiseXs5 C f W ta ⟨N, R, Bk, Ct⟩ σ H := q
end
end SH
end

section
namespace SH
open PySem PySem.Spec PyProof.Rows L2 LamX
/-! ### a lambda without parameters handed to a def: what it changes is the maker's table of code objects alone -/
section
variable {S : List Addr} {H H' : Hp} {P c : Addr} {ps ps' : Array Value} {q : Str}
theorem tblNe {b : Addr} {o : HO} (hP : H P = some (.tbl ps)) (h : H b = some o) (n : ∀ ps, o ≠ .tbl ps) : b ≠ P := fun z => by
  rw [z, hP] at h
  exact n ps (Option.some.inj h).symm
theorem offTab (hP : H P = some (.tbl ps)) (hc : H c = none) : Off [P] H (upd (upd H P (.tbl ps')) c (CodeO c q)) := by
  have at_ : ∀ b o, b ≠ P → H b = some o → upd (upd H P (.tbl ps')) c (CodeO c q) b = some o := fun b o n e => by rw [upd_ne (ne_of_none e hc), upd_ne n]; exact e
  exact ⟨fun a o n e => at_ a o (by simpa using n) e, fun a xs e => at_ a _ (tblNe hP e (fun _ z => by cases z)) e, fun a o u e => at_ a _ (tblNe hP e (fun _ z => by cases z)) e, fun a o e => by
    by_cases z : a = P
    · exact ⟨_, by rw [upd_ne (ne_of_none e hc), z, upd_same]⟩
    · exact ⟨o, at_ a o z e⟩⟩
/-- a place that holds no code object's fact -/
def NoExt (H : Hp) (S : List Addr) : Prop := ∀ a ∈ S, ∀ φ, H a ≠ some (.ext φ)
theorem NoExt.nil : NoExt H [] := fun a h => by cases h
theorem TabS.off (h : TabS H P q) (o : Off S H H') (n : P ∉ S) (ne : NoExt H S) : TabS H' P q := by
  obtain ⟨ps, h1, h2, h3⟩ := h
  refine ⟨ps, o.at n h1, h2, fun pos cv hc => ?_⟩
  obtain ⟨c, e1, e2⟩ := h3 pos cv hc
  exact ⟨c, e1, o.at (fun z => ne c z _ e2) e2⟩
end
section
variable {X : Cx} {pins : List (Addr × Obj)} {σ : L2.St} {H : Hp} {s : Shared}
theorem lam_make3 {c P : Addr} {q : Str} {params : Arguments} {body : Expr} {scope : Scope} {pos : Pos} {E : Value → Shared → Prop} {Q : Value → Shared → Prop} (hq : q = X.env.qual ++ "<lambda>") (I : Inv X pins σ H s) (TB : TabB X.base X.mg c P) (hcode : X.env.code = .ref c)
    (hT : TabS H P q) (hdef : defaultsOf params X.env = ([], [])) (hfree : ∀ y ∈ scope.names, y.2 = .free → ∃ c, X.env.cells.lookup y.1 = some c)
    (h : ∀ (f c' : Addr) (pm ctv : Value) (H1 : Hp) (s' : Shared), Inv X pins σ H1 s' → Off [P] H H1 → TabS H1 P q →
      s'.heap.get? f = some (PySem.W.kla_obj "<lambda>" q params body scope (cloFrom X.env.cells scope.names []) pm c' ctv) → H1 f = none → f ∉ frs X.stack → H1 c' = some (CodeO c' q) → Q (.ref f) s') :
    wpAny (model X.prog X.w) X.A (eval (.Lambda params body scope pos) X.env) Q E s := by
  subst hq
  obtain ⟨ps, hP, ht, ha⟩ := hT
  have out : ∀ f, s.heap.objs.size ≤ f → f ∉ frs X.stack := by
    intro f hf z
    rcases List.mem_cons.mp (I.stkSub _ z) with e | e
    · have lt := I.lt
      rw [← e] at lt
      exact absurd lt (Nat.not_lt.mpr hf)
    · exact I.nofs hf e
  have getP : s.heap.get? P = some { cls := .none, data := .fields ps } := I.hok P _ hP
  have bm := TB.bm.keeps I.bk
  have cd := TB.code.keeps I.bk
  have gl := I.mod.glob.keeps I.bk
  apply PySem.W.kla_eval hdef
  rcases hc : codeAmong pos ps.toList with _ | cv
  · apply PySem.W.kla_makeFunction (mg := X.mg) (c := c) (P := P) (ps := ps) (closure_ok hfree) I.ok.glob gl hcode cd getP ht hc TB.gP bm
    rintro c' ctv h' tk hx hge hlt ⟨c2, oc, vs, t, e2, hoc, hd, hv⟩ htb
    cases e2
    have big : s.heap.objs.size ≤ h'.objs.size := Nat.le_trans hge (Nat.le_of_lt hlt)
    have nC : H c' = none := I.hok.fresh hge
    have J := inv_table (t' := tk) (more := #[rawInt pos.line, rawInt pos.col, .ref c']) (h' := h'.push (PySem.W.kla_obj "<lambda>" (X.env.qual ++ "<lambda>") params body scope (cloFrom X.env.cells scope.names []) ((X.mg "__name__").getD .none) c' ctv)) I hP
      (fun b o hb e => Heap.get?_push_of_some _ (hx b o hb e)) (Heap.get?_push_of_some _ htb) hge ⟨oc, vs, t, Heap.get?_push_of_some _ hoc, hd, hv⟩
    have o := offTab (ps' := ps ++ #[rawInt pos.line, rawInt pos.col, .ref c']) (q := X.env.qual ++ "<lambda>") hP nC
    apply h h'.objs.size c' ((X.mg "__name__").getD .none) ctv _ _ J o ?tab (Heap.get?_push_size _ rfl) ?new (out _ big) upd_same
    case tab =>
      have eL : (ps ++ #[rawInt pos.line, rawInt pos.col, Value.ref c']).toList = ps.toList ++ [rawInt pos.line, rawInt pos.col, .ref c'] := by simp
      refine ⟨_, by rw [upd_ne (ne_of_none hP nC), upd_same], by rw [eL]; exact PySem.TriplesOk_snoc _ _ _ _ ht, ?_⟩
      intro p' cv hcv
      rw [eL] at hcv
      rcases among_app _ ht hcv with z | rfl
      · obtain ⟨c0, e1, e2⟩ := ha p' cv z
        exact ⟨c0, e1, o.at (by simpa using tblNe hP e2 codeO_ne) e2⟩
      · exact ⟨c', rfl, upd_same⟩
    case new =>
      rw [upd_ne (Nat.ne_of_gt hlt), upd_ne (Nat.ne_of_gt (Nat.lt_of_lt_of_le (Heap.lt_size getP) big))]
      exact I.hok.fresh big
  · obtain ⟨c', rfl, hco⟩ := ha pos cv hc
    apply PySem.W.kla_makeFunctionHit (mg := X.mg) (c := c) (P := P) (ps := ps) (closure_ok hfree) I.ok.glob gl hcode cd getP ht hc bm
    intro ctv h' tk hx big
    exact h h'.objs.size c' ((X.mg "__name__").getD .none) ctv H _ (I.kept fun b o e => Heap.get?_push_of_some _ (hx b o e)) (.refl _ _) ⟨ps, hP, ht, ha⟩ (Heap.get?_push_size _ rfl) (I.hok.fresh big) (out _ big) hco
end
/-- x(lambda: body): the table stands at P -/
def tLam1 (P : Addr) (q : Str) (TT : (XK → Hp → VK → Prop) → Hp → VK → Prop) (t : XK → TE) : TE := fun σ H Q => TabS H P q ∧ ∀ H1, Off [P] H H1 → TabS H1 P q → TT (fun E H' Q' => t E σ H' Q') H1 Q
/-- the def that gets the lambda, its function object told -/
structure GetsL (K : PySem.W.Frag) (mg : Str → Option Value) (x a : Str) (Ng : List Str) (sg : Scope) (bg : List Stmt) (g : Addr) (cdv : Value) : Prop where
  hm : mg x = some (.ref g)
  hk : PySem.W.keepIn K (.ref g) = true
  lk : ∃ oc od pg dV kV doc pm an ct osl, K.lookup g = some ⟨oc, od, .func (PySem.W.fnOf x x pg bg sg dV kV doc pm an cdv ct), osl⟩ ∧ L2.Binds K (PySem.W.fnOf x x pg bg sg dV kV doc pm an cdv ct) [a] []
  hc : PySem.W.codeIn K cdv x = true
  sc : FnScope Ng [a] sg
  n0 : Ng[0]? = some a
  va : Vis sg a
theorem pe_lam1 {X : Cx} {TT : (XK → Hp → VK → Prop) → Hp → VK → Prop} {x a q : Str} {g c P : Addr} {k : Nat} {bg : List Stmt} {sg : Scope} {cdv : Value} {Ng : List Str} {params : Arguments} {body : Expr} {scope : Scope} {t : XK → TE} {p lpos pos : Pos}
    (G : GetsL X.K X.mg x a Ng sg bg g cdv) (hG : GivesTo X Ng x sg g cdv bg a q TT) (TB : TabB X.base X.mg c P) (hcode : X.env.code = .ref c) (hr : Room (k + 2) X.A) (L : LamS X.env.scope scope)
    (hbody : ∀ (A : Around) (outer : List Env) (s : Shared) (H : Hp) (E : XK) (f c' : Addr), Room k (A.deeper (lamEnv X scope s.heap.objs.size f c')) → PE (lamCx X A outer s H E scope f c') body (t E))
    (hg : Gl X x := by rfl) (hq : X.env.qual ++ "<lambda>" = q := by rfl) (hdef : defaultsOf params X.env = ([], []) := by rfl) (hbind : ∀ (q : Str) (cl : List (Str × Addr)) (pm cv ctv : Value), bindArgs (PySem.W.kla_fn "<lambda>" q params body scope cl pm cv ctv) ⟨[], []⟩ = pure [] := by intros; rfl)
    (hdb : (x == ("__debug__" : Str)) = false := by decide) (hd : (a == ("__debug__" : Str)) = false := by decide) (hcd : (a == ("__classdict__" : Str)) = false := by decide) :
    PE X (.Call (.Name x p) [.Lambda params body scope lpos] [] pos) (tLam1 P q TT t) := by
  subst hq
  obtain ⟨oc, od, pg, dV, kV, doc, pm, an, ct, osl, lk, hb⟩ := G.lk
  constructor
  rintro pins s σ H Q I ⟨hT, h⟩
  apply wpAny_Call_Name_kw (ld_glob I hg G.hm ?_ hdb)
  refine PySem.W.callWith_K (h₀ := X.base) I.ok.mod.kin G.hk ?_ (by rfl) (by rfl)
  show wpAny _ _ (spliced ((false, eval (.Lambda params body scope lpos) X.env) :: backTo pos (starEach [] X.env))) _ _ s
  apply Calls.spliced_cons
  apply lam_make3 rfl I TB hcode hT hdef (L.has I.ok)
  intro f c' pm' ctv H1 s' I1 o1 T1 hf hfn hfr hco
  refine Calls.spliced_nil ⟨I1.kIn, ?_⟩
  have run : codeAny (model X.prog X.w) X.A (.call (.ref g) ⟨[.ref f], []⟩) (CR C8.CX0 X.stack X.prog X.w H1 s' Q C8.E0) s' := by
    apply run_ofS (N := Ng) (ps := [a]) (us := [.ref f]) (vs := [.ref f]) lk G.hc G.sc hr I1.env0 (hb s' [.ref f] I1.kIn rfl) (.cons rfl .nil) rfl
    intro hr'
    obtain ⟨t', ht', hq'⟩ := hG f c' s' H1 Q (fun E H' Q' => t E σ H' Q')
      (fun W pn xe E p1 p2 tk hW => pe_act (i := 0) I1 L hf hfn hfr (hbind _ _ _ _ _) tk hW hr' (fun A outer s H hr2 => hbody A outer s H E f c' hr2) G.n0 G.va hd hcd) hco (h H1 o1 T1)
    exact ⟨t', ht'.nox, hq'⟩
  refine wpAny_call (codeAny_mono run ?_)
  intro r s2 z
  match r, z with
  | .ok (.ret u), z => exact I1.after z
  | .error e, z => exact (show False from z).elim
  | .ok .next, z => exact z.elim
  | .ok .brk, z => exact z.elim
  | .ok .cont, z => exact z.elim
/-- a name whose slot is told where the slots are as many as the def's names -/
def tVarL (n i : Nat) (v : V) : TE := fun σ H Q => (σ.length = n → σ[i]? = some (some v)) ∧ Q v H
theorem pe_varL {X : Cx} {e : Expr} {i : Nat} {v : V} (h : PE X e (tVar i)) : PE X e (tVarL X.N.length i v) := ⟨fun pins s σ H Q I q => h.run pins s σ H Q I ⟨v, q.1 I.len, q.2⟩⟩
/-- try: call() / except C as e: return e.f / return "" -/
def TTref (C : Addr) (f : Str) : (XK → Hp → VK → Prop) → Hp → VK → Prop := fun tl H Q =>
  tl (fun cls d H' => ∃ dd v, cls = .ref C ∧ d = some dd ∧ H' dd = some (.xd [(f, v)]) ∧ Q v H') H fun _ H' => Q (.str "") H'
end SH
end

section
namespace Hq
open PySem PySem.Spec PyProof.Rows L2 He
/-! ### the head's facts, with own errors whose __init__ closes over its class -/
structure XD where
  x : Str
  f : Str
  qual : Str
  params : Arguments
  body : List Stmt
  scope : Scope
abbrev FnC : Type := Option (Str × Str × Arguments × FuncBody × Scope × Addr × List Str × Addr)
def XD.p (d : XD) : Str × Option Str := (d.x, some "__init__")
def fnC (K : PySem.W.Frag) (p : Str × Option Str) : FnC := match K.lookup (fAd K p) with
  | some ⟨_, _, .func fd, _⟩ => some (fd.name, fd.qualname, fd.params, fd.body, fd.scope, fd.globals, fd.closure.map (·.1), fd.builtins)
  | _ => none
def XD.val (d : XD) : FnC := some ("__init__", d.qual, d.params, .stmts d.body, d.scope, mainGlobals, ["__class__"], builtinsNs)
def newB (l : List (Option Value)) : Bool := match l with
  | [_, _, _, _, some (.builtin b), _] => decide (b = "ValueError.__new__")
  | _ => false
theorem newB_ok : ∀ {l : List (Option Value)}, newB l = true → ∃ a0 a1 a2 a3 a5, l = [a0, a1, a2, a3, some (.builtin "ValueError.__new__"), a5]
  | [], h => by cases h
  | [_], h => by cases h
  | [_, _], h => by cases h
  | [_, _, _], h => by cases h
  | [_, _, _, _], h => by cases h
  | [_, _, _, _, _], h => by simp [newB] at h
  | _ :: _ :: _ :: _ :: _ :: _ :: _ :: _, h => by simp [newB] at h
  | [a0, a1, a2, a3, a4, a5], h => by
    cases a4 with
    | none => cases h
    | some v =>
      cases v with
      | builtin b =>
        obtain rfl : b = "ValueError.__new__" := of_decide_eq_true h
        exact ⟨a0, a1, a2, a3, a5, rfl⟩
      | _ => cases h
/-- the class's own object -/
def clsB (K : PySem.W.Frag) (C : Addr) : Bool := match K.lookup C with
  | some ⟨.type t, _, .cls cd, sl⟩ => decide (t = "type") && (cd.hasDict && (!cd.hasDel && ((match cd.mro with
    | .ref c :: bm => decide (c = C) && PySem.HandSPX.refsVE bm
    | _ => false) && newB sl.toList)))
  | _ => false
theorem clsB_ok {K : PySem.W.Frag} {C : Addr} (h : clsB K C = true) : ∃ nm q N bs bm sn sub ab col dd k0 k1 k2 k3 k5, K.lookup C = some (excClassObj nm q C N bs bm true sn sub ab col dd k0 k1 k2 k3 k5 "ValueError.__new__") ∧ PySem.HandSPX.refsVE bm = true := by
  unfold clsB at h
  cases q : K.lookup C with
  | none => rw [q] at h; cases h
  | some o =>
    obtain ⟨oc, od, dt, sl⟩ := o
    rw [q] at h
    cases oc with
    | type t =>
      cases dt with
      | cls cd =>
        obtain ⟨h1, h⟩ := ba h
        obtain ⟨h2, h⟩ := ba h
        obtain ⟨h3, h⟩ := ba h
        obtain ⟨h4, h5⟩ := ba h
        obtain ⟨nm, bs, mro, ns, qn, hd, sn, sub, ab, col, del⟩ := cd
        simp only at h2 h3 h4
        obtain rfl : t = "type" := of_decide_eq_true h1
        subst h2
        obtain rfl : del = false := by cases del with
          | false => rfl
          | true => cases h3
        cases mro with
        | nil => cases h4
        | cons v bm =>
          cases v with
          | ref c =>
            obtain ⟨h6, h7⟩ := ba h4
            obtain rfl : c = C := of_decide_eq_true h6
            obtain ⟨sll⟩ := sl
            obtain ⟨a0, a1, a2, a3, a5, e⟩ := newB_ok h5
            have e2 : sll = [a0, a1, a2, a3, some (.builtin "ValueError.__new__"), a5] := e
            subst e2
            exact ⟨nm, qn, ns, bs, bm, sn, sub, ab, col, od, a0, a1, a2, a3, a5, rfl, h7⟩
          | _ => cases h4
      | _ => cases h
    | _ => cases dt <;> cases h
/-- the def: no defaults, its code's file, its cell -/
def fnB (prog : Program) (K : PySem.W.Frag) (d : XD) : Bool := match K.lookup (fAd K d.p) with
  | some ⟨_, _, .func fd, _⟩ => (match fd.defaults, fd.kwdefaults, fd.closure, fd.code with
    | .none, .none, [(_, cc)], .ref cda => PySem.W.codeIn K (.ref cda) d.qual && ((match K.lookup cda with
      | some ⟨_, _, .fields vs, _⟩ => (match (vs[2]? : Option Value) with
        | some (.str file _) => (prog.main.file : Str) == file
        | _ => false)
      | _ => false) && (match K.lookup cc with
      | some ⟨_, _, .cell (some (.ref c)), _⟩ => decide (c = ga K d.x)
      | _ => false))
    | _, _, _, _ => false)
  | _ => false
def txtB (prog : Program) (K : PySem.W.Frag) (d : XD) : Bool :=
  fnB prog K d && (clsB K (ga K d.x) && ([eqO (PySem.W.nsIn K mainGlobals d.x) (some (some (.ref (ga K d.x)))), decide (PySem.W.ks_superIn K (ga K d.x) (ga K d.x) "__init__" = some (some (.builtin "ValueError.__init__"))),
    eqO (PySem.W.findIn K (.ref (ga K d.x)) "__setattr__") (some (some (.builtin "object.__setattr__"))), eqO (PySem.W.findIn K (.ref (ga K d.x)) d.f) (some none),
    eqO (PySem.W.findIn K (.ref (ga K d.x)) "__init__") (some (some (.ref (fAd K d.p)))), decide (PySem.W.typeIn K (.ref (fAd K d.p)) = some (.type "function")), PySem.W.keepIn K (.ref (ga K d.x)),
    decide (PySem.W.subIn K (.ref (ga K d.x)) (.type "BaseException") = some true), decide (PySem.W.subIn K (.ref (ga K d.x)) (.type "ValueError") = some true), decide (PySem.W.mroIn K (ga K d.x) (.ref (ga K d.x)) = some true),
    decide (PySem.W.typeIn K (.ref (ga K d.x)) = some (.type "type")), !(prog.main.scope.names.lookup ("super" : Str)).isSome, eqO (PySem.W.nsIn K mainGlobals "super") (some none), eqO (PySem.W.nsIn K cStatics "thirdparty.any") (some none)].all id))
theorem txtB_ok {prog : Program} {K : PySem.W.Frag} {h : Heap} {mg : Str → Option Value} {d : XD} (X : K.In h) (G : h.Ns mainGlobals mg) (nm : PySem.XsX.NmOk d.f) (e : fnC K d.p = d.val) (c : txtB prog K d = true)
    {p1 p2 q0 q1 q2 q3 q4 q5 q6 q7 q8 q9 : Pos} (ea : d.params = PySem.XsX.iA d.f p1 p2) (eb : d.body = PySem.XsX.iB d.f q0 q1 q2 q3 q4 q5 q6 q7 q8 q9) (es : d.scope = PySem.XsX.iS d.f) (el : (q2.endLine == q4.line) = true) :
    PySem.XsX.XsTxt prog K mg d.x d.f (ga K d.x) (fAd K d.p) := by
  obtain ⟨hf, c⟩ := ba c
  obtain ⟨hc, c⟩ := ba c
  simp only [List.all_cons, List.all_nil, Bool.and_true, Bool.and_eq_true, id_eq, decide_eq_true_eq, Bool.not_eq_true'] at c
  obtain ⟨c1, c2, c3, c4, c5, c6, c7, c8, c9, c10, c11, c12, c13, c14⟩ := c
  refine ⟨nm, PySem.W.mg_of X G (eqO_ok c1), clsB_ok hc, c2, eqO_ok c3, eqO_ok c4, eqO_ok c5, c6, c7, c8, c9, c10, c11, c12, eqO_ok c13, eqO_ok c14, ?_⟩
  unfold fnB at hf
  unfold fnC at e
  cases q : K.lookup (fAd K d.p) with
  | none => rw [q] at hf; cases hf
  | some o =>
    obtain ⟨oc, od, dt, osl⟩ := o
    rw [q] at hf e
    cases dt with
    | func fd =>
      obtain ⟨n1, n2, n3, n4, n5, n6, n7, n8, n9, n10, n11, n12, n13, n14, n15⟩ := fd
      have e2 : (some (n1, n2, n3, n4, n5, n6, n7.map (·.1), n15) : FnC) = some (("__init__" : Str), d.qual, d.params, FuncBody.stmts d.body, d.scope, mainGlobals, (["__class__"] : List Str), builtinsNs) := e
      simp only [Option.some.injEq, Prod.mk.injEq] at e2
      obtain ⟨h1, h2, h3, h4, h5, h6, h7, h8⟩ := e2
      simp only at hf
      split at hf
      · rename_i y cc cda
        obtain ⟨k1, hf⟩ := ba hf
        obtain ⟨k2, k3⟩ := ba hf
        have hy : y = "__class__" := by simpa using h7
        cases qa : K.lookup cda with
        | none => rw [qa] at k2; cases k2
        | some oa =>
          obtain ⟨ac, ad, adt, asl⟩ := oa
          rw [qa] at k2
          cases adt with
          | fields vs =>
            simp only at k2
            cases qv : vs[2]? with
            | none => rw [qv] at k2; cases k2
            | some vv =>
              rw [qv] at k2
              cases vv with
              | str file tf =>
                cases qb : K.lookup cc with
                | none => rw [qb] at k3; cases k3
                | some ob =>
                  obtain ⟨bc, bd, bdt, bsl⟩ := ob
                  rw [qb] at k3
                  cases bdt with
                  | cell cv =>
                    cases cv with
                    | none => cases k3
                    | some cv =>
                      cases cv with
                      | ref c0 =>
                        have hc0 : c0 = ga K d.x := of_decide_eq_true k3
                        subst h1 h2 h3 h4 h5 h6 h8 hy
                        subst hc0
                        refine ⟨d.qual, oc, od, n10, n11, n12, cda, cc, n14, osl, p1, p2, q0, q1, q2, q3, q4, q5, q6, q7, q8, q9, ac, ad, vs, asl, file, tf, bc, bd, bsl, ?_, k1, qa, qv, k2, qb, el⟩
                        rw [ea, eb, es]
                      | _ => cases k3
                  | _ => cases k3
              | _ => cases k2
          | _ => cases k2
      · cases hf
    | _ => cases hf
/-! ### the Hook -/
abbrev AlQ : Type := AlD × Bool × List FnC
def obsQ (fa : List Fa) (fn : List DefD) (xs : List XD) (ex : PySem.W.Frag → Bool) (prog : Program) (K : PySem.W.Frag) : AlQ := (obsD fa fn K, ex K && xs.all fun d => txtB prog K d, xs.map fun d => fnC K d.p)
def valQ (fn : List DefD) (xs : List XD) : AlQ := (valD fn, true, xs.map XD.val)
def frQ (n : Nat) (g : Addr → Option Obj) : PySem.W.Frag := frG g (cStatics :: asD g n)
def hookQ (n : Nat) (fa : List Fa) (fn : List DefD) (xs : List XD) (ex : PySem.W.Frag → Bool) (prog : Program) : PySem.W.Hook where
  α := AlQ
  obs := fun s => obsQ fa fn xs ex prog (frQ n s.heap.get?)
  val := fun _ => valQ fn xs
  says := fun _ h => ∃ K : PySem.W.Frag, K.In h ∧ obsQ fa fn xs ex prog K = valQ fn xs
  of := fun _ _ e => ⟨_, frG_in, e⟩
  keeps := fun _ _ _ ⟨K, hK, c⟩ k => ⟨K, PySem.W.Frag.In.keeps hK k, c⟩
section
variable {fa : List Fa} {fn : List DefD} {xs : List XD} {ex : PySem.W.Frag → Bool} {prog : Program} {K : PySem.W.Frag}
theorem says_d (c : obsQ fa fn xs ex prog K = valQ fn xs) : SaysD fa fn K := congrArg (fun z : AlQ => z.1) c
theorem says_ex (c : obsQ fa fn xs ex prog K = valQ fn xs) : ex K = true := (ba (congrArg (fun z : AlQ => z.2.1) c : (ex K && xs.all fun d => txtB prog K d) = true)).1
theorem says_x (c : obsQ fa fn xs ex prog K = valQ fn xs) {d : XD} (h : d ∈ xs) : fnC K d.p = d.val ∧ txtB prog K d = true := by
  have c1 := List.all_eq_true.mp (ba (congrArg (fun z : AlQ => z.2.1) c : (ex K && xs.all fun d => txtB prog K d) = true)).2 d h
  refine ⟨?_, c1⟩
  have e : xs.map (fun d => fnC K d.p) = xs.map XD.val := congrArg (fun z : AlQ => z.2.2) c
  obtain ⟨i, hi, rfl⟩ := List.mem_iff_getElem.mp h
  have e2 : (xs.map fun d => fnC K d.p)[i]? = (xs.map XD.val)[i]? := by rw [e]
  rw [List.getElem?_map, List.getElem?_map, List.getElem?_eq_getElem hi] at e2
  exact Option.some.inj e2
theorem facts_d (c : SaysD fa fn K) {f : Fa} (h : f ∈ fa) : f.ok K = true := SaysD.facts c h
end
end Hq
end

section
namespace SH
open PySem PySem.Spec PyProof.Rows L2 LamX
/-! ### lists and tuples repeated; three names at once -/
section
variable {X : Cx} {σ : L2.St} {H : Hp} {Q : VK} {K : PySem.W.Frag} {l a b : Addr} {xs ys : List V} {N : L2.St → Hp → Prop} {R : VK} {Bk Ct : L2.St → Hp → Prop}
theorem g_rep {k : Int} (h : H l = some (.lst xs)) (k0 : 0 ≤ k) (k1 : k ≤ 100000) (hz : xs.length ≤ 100) (q : ∀ p, H p = none → Q (.ref p) (upd H p (.lst (List.replicate k.toNat xs).flatten))) : rRep (.ref l) (.int k) H Q :=
  ⟨l, k, xs, rfl, rfl, h, by omega, by omega, by
    rw [sizeLine_eq]
    have : xs.length * k.toNat ≤ 100 * 100000 := Nat.mul_le_mul hz (by omega)
    omega, q⟩
def rRepB (K : PySem.W.Frag) : R2 := fun x y H Q => ∃ l k xs, x = .ref l ∧ y = .int k ∧ SqT K H l xs ∧ xs ≠ [] ∧ 2 ≤ k ∧ k ≤ 100000 ∧ xs.length ≤ 100 ∧ ∀ p, H p = none → Q (.ref p) (upd H p (.tup (List.replicate k.toNat xs).flatten))
theorem op_repB (hK : X.K = K) : OpR X (binaryOp .Mult) (rRepB K) := by
  subst hK
  intro pins s σ H x y v u Q I rx ry h
  obtain ⟨l, k, xs, rfl, rfl, hT, hne, h1, h2, hz, q⟩ := h
  cases rx
  obtain ⟨t, rfl⟩ := ry
  obtain ⟨its, r, ⟨⟨cls, dd, data, sl⟩, ho, hc, n, hd⟩, hs⟩ := I.tuple hT
  simp only at hc hd
  subst hc hd
  have hle : its.length = xs.length := r.length.symm
  have hn : its ≠ [] := fun e => hne (by
    rw [e] at hle
    exact List.eq_nil_of_length_eq_zero hle.symm)
  have hi : its.toArray.isEmpty = false := by
    cases its with
    | nil => exact absurd rfl hn
    | cons a b => rfl
  have hsz0 : its.toArray.size = xs.length := by rw [List.size_toArray, hle]
  have hm : ((its.toArray.size : Nat) : Int) * k ≤ 10000000 := by
    rw [hsz0]
    have a1 : ((xs.length : Nat) : Int) * k ≤ 100 * k := Int.mul_le_mul_of_nonneg_right (by omega) (by omega)
    omega
  have flen : (List.replicate k.toNat its).flatten.length ≤ sizeLine := by
    rw [PyProof.Rows.lm_len_rep_flat, hle, sizeLine_eq]
    have a1 : k.toNat * xs.length ≤ 100000 * 100 := Nat.mul_le_mul (by omega) hz
    omega
  have c0 : (decide (k < -(2 ^ 63)) || decide (k ≥ 2 ^ 63)) = false := by
    rw [decide_eq_false (by omega), decide_eq_false (by omega)] <;> rfl
  have c1 : (its.toArray.isEmpty || k == 1) = false := by
    rw [hi, Bool.false_or]
    exact beq_eq_false_iff_ne.mpr (by omega)
  have c2 : (decide (k ≤ 0) || its.toArray.isEmpty) = false := by
    rw [hi, Bool.or_false]
    exact decide_eq_false (by omega)
  have c4 : Builtin.Tuple.tupleTooMany (((its.toArray.size : Nat) : Int) * k) = false := by
    unfold Builtin.Tuple.tupleTooMany
    rw [sizeLine_eq]
    exact decide_eq_false (by omega)
  refine wpAny_binaryOp_repeat_ref (T := "tuple") (U := "int") (by decide) ⟨_, ho, rfl⟩ (fun s' => typeIs_int s' k t) noFill_tuple_mul F.fills_int_mul F.slot_int_rmul repeat_tuple F.slot_int_index.lookup
    (call_meets F.slot_int_rmul (typeIs_int s k t) F.entry_int_rmul (F.args_int_rmul_2 _ _) (int_rmul_tuple k t l its.toArray n dd sl)
      ⟨ho, rfl, ⟨_, ho, rfl⟩, call_meets F.slot_tuple_mul ⟨_, ho, rfl⟩ F.entry_tuple_mul (F.args_tuple_mul_2 _ _) (tuple_mulW l its.toArray n dd sl k t c0 c1 c2 (by omega) c4 (by rw [size_rep, List.size_toArray]; exact flen)) ⟨ho, ?_⟩⟩)
  rw [size_rep]
  refine ⟨.ref s.heap.objs.size, _, I.laid (t' := s.toks) (o := .tup (List.replicate k.toNat xs).flatten) (fun b ob q => Heap.get?_push_of_some _ q) (Nat.le_refl _) ?_, rfl, q _ (I.hok.fresh (Nat.le_refl _))⟩
  exact ⟨by rw [PyProof.Rows.lm_len_rep_flat, sizeLine_eq]; have a1 : k.toNat * xs.length ≤ 100000 * 100 := Nat.mul_le_mul (by omega) hz; omega, _, r.rep k.toNat, IsTup.new _ _⟩
theorem g_repB {k : Int} (h : SqT K H l xs) (ne : xs ≠ []) (k0 : 2 ≤ k) (k1 : k ≤ 100000) (hz : xs.length ≤ 100) (q : ∀ p, H p = none → Q (.ref p) (upd H p (.tup (List.replicate k.toNat xs).flatten))) : rRepB K (.ref l) (.int k) H Q := ⟨l, k, xs, rfl, rfl, h, ne, k0, k1, hz, q⟩
theorem op_catAK (hK : X.K = K) : OpR X (binaryOp .Add) (rCatA K) := by subst hK; exact op_catA
/-- t + (v, ..) -/
theorem g_catA (h1 : SqT K H a xs) (h2 : SqT K H b ys) (hz : xs.length + ys.length ≤ sizeLine) (q : ∀ p H', SqT K H' p (xs ++ ys) → Off [] H H' → Q (.ref p) H') : rCatA K (.ref a) (.ref b) H Q := by
  refine ⟨a, b, xs, ys, rfl, rfl, h1, h2, hz, fun e => ?_, fun _ e => ?_, fun _ _ p hp => ?_⟩
  · exact q b H (by rw [e, List.nil_append]; exact h2) (.refl _ _)
  · exact q a H (by rw [e, List.append_nil]; exact h1) (.refl _ _)
  · exact q p _ (.of upd_same) (.new hp)
theorem g_par3 {i j m : Nat} {ta : TA} (q : ta σ H fun vs H1 => ∃ u v w, vs = [u, v, w] ∧ N (((σ.set i (some u)).set j (some v)).set m (some w)) H1) : tPar3 i j m ta ⟨N, R, Bk, Ct⟩ σ H := q
theorem g_par33 {i j m : Nat} {u v w : V} (q : N (((σ.set i (some u)).set j (some v)).set m (some w)) H) : ∃ u' v' w', [u, v, w] = [u', v', w'] ∧ N (((σ.set i (some u')).set j (some v')).set m (some w')) H := ⟨u, v, w, rfl, q⟩
theorem g_isBF {x y : Bool} (q : Q (.bl (decide (x = y))) H) : rIsB (.bl x) (.bl y) H Q := ⟨x, y, rfl, rfl, q⟩
end
/-! #### a def whose code object is known: it makes lambdas -/
/-- the def's code object is c -/
def CodeOf (K : PySem.W.Frag) (mg : Str → Option Value) (x : Str) (c : Addr) : Prop := ∀ f oc od fd osl, mg x = some (.ref f) → K.lookup f = some ⟨oc, od, .func fd, osl⟩ → fd.code = .ref c
section
variable {P : Program} {w : World} {K : PySem.W.Frag} {mg : Str → Option Value} {base : Heap} {x : Str} {st : Stmt} {N ps : List Str} {k : Nat} {sp : Sp} {c : Addr}
theorem TopD.okT (T : TopD K mg x st) (S : FnScope N ps (defScope st)) (hco : CodeOf K mg x c)
    (hb : ∀ (kV doc pm : Value) (an : Option Addr) (cdv ct : Value) (us : List Value), us.length = ps.length → bindArgs (PySem.W.fnOf x x (defArgs st) (defBody st) (defScope st) .none kV doc pm an cdv ct) ⟨us, []⟩ = pure (ps.zip us))
    (len : ∀ vs H Q E, sp vs H Q E → vs.length = ps.length)
    (hbody : ∀ (f : Addr) (A : Around) (outer : List Env) (s : Shared) (H : Hp) (vs : List V) (Q : VK) (E : XK), Room k (A.deeper (envOfC x (defScope st) s.heap.objs.size f (.ref c))) → sp vs H Q E →
      ∃ t, PSs (cxOf (L2N.CX P w) P w K mg base N x (defScope st) f (.ref c) A outer s H E) (defBody st) t ∧ t { nx := fun _ H' => Q .non H', rt := Q } (start N vs) H) : DefOk P w K mg base x (k + 1) ps sp := by
  obtain ⟨f, fd, F, hm⟩ := T
  have hkp := F.kp
  have hbn := F.bindsN hb
  obtain ⟨oc, od, dV, kV, doc, pm, an, cdv, ct, osl, rfl, lk, hcd, _, _⟩ := F.ex
  have e : cdv = .ref c := hco f _ _ _ _ hm lk
  subst e
  exact ⟨f, _, fn_of lk hcd S len fun A outer s H vs Q E hr hsp => hbody f A outer s H vs Q E hr hsp, hm, hkp, hbn⟩
theorem codeOf_tab {h : Heap} {c P' : Addr} (X : K.In h) (G : h.Ns mainGlobals mg) (e : PySem.W.tabIn K x = some (c, P')) : CodeOf K mg x c := by
  intro f oc od fd osl hm lk
  unfold PySem.W.tabIn at e
  split at e
  · rename_i f2 hf
    have e1 := PySem.W.mg_of X G hf
    rw [hm] at e1
    cases e1
    rw [lk] at e
    simp only at e
    split at e
    · rename_i c2 hc
      split at e
      · split at e
        · cases e
          exact hc
        · cases e
      · cases e
    · cases e
  · cases e
end
/-- what is known of the makers' tables at the law's call -/
def TabsOf (q : Program) (h : Heap) : Prop := ∀ (K : PySem.W.Frag) (x : Str) (c P : Addr) (d : DefRec), K.In h → (recsOf q).find? (fun e => e.name == x) = some d → PySem.W.tabIn K x = some (c, P) → PySem.W.CodeHd h c P ∧ h.get? P = some { cls := .none, data := .fields #[] }
theorem walk_ofT5 {l : PySem.W.OpenLaw} {n k : Nat} {q : Program} {loose : List Str} {XP : (Str → Option Value) → Heap → Prop} {YP : World → Heap → Prop} {d : DefRec} {CX : World → CXT} {x : Str}
    (hn : l.most = some n) (hn2 : n ≤ sizeLine) (hdf : d.params.defaults = []) (hr : Room k callerA)
    (F : ∀ (w : World) (mg : Str → Option Value) (fa : Addr) (h : Heap), YP w h → h.Ns mainGlobals mg → mg d.name = some (.ref fa) → TabsOf q h → ∃ K : PySem.W.Frag, K.In h ∧ LawAtS l w K (CX w) k n x mg fa h)
    (hCX : ∀ (w : World) (H : Hp) (s : Shared) (e : Value) (s' : Shared), CX w [] H s (fun _ _ _ => False) e s' → False) :
    PySem.W.WalkO q loose XP YP l.row.toRowW d [] (fun f vs => PySem.call f vs) := by
  refine Att.attach_callB hn hdf fun w s₀ s₁ mg mb fa o pm cd doc a vs ns G Y ho hd hcd hmg hobj hints hlen hbits hg => ?_
  obtain ⟨K, KX, fd, cs, sp, hT, nT, C, hb, hsp, hF⟩ := F w mg fa _ Y G.T.g hmg fun K x c P d X hr ht => PySem.W.tab_of G.T X hr ht
  exact law_callTs KX G.T.g G.T.b G.T.builtins G.T.nolimit hg hT nT C G.T.bmain hobj hints (Nat.le_trans hlen hn2) hr hF hb (fun H hH hS => hsp H a ns hlen hbits hH hS) fun H e s' => hCX w H s₁ e s'
/-- the def's table stands outside what is known -/
def tabB (K : PySem.W.Frag) (x : Str) : Bool := match PySem.W.tabIn K x with
  | some (_, P) => (K.lookup P).isNone
  | none => false
theorem tabB_ok {K : PySem.W.Frag} {x : Str} (h : tabB K x = true) : ∃ c P, PySem.W.tabIn K x = some (c, P) ∧ K.lookup P = none := by
  unfold tabB at h
  split at h
  · rename_i c P e
    exact ⟨c, P, e, by simpa using h⟩
  · cases h
theorem sql_ne {K : PySem.W.Frag} {H : Hp} {a P : Addr} {xs : List V} {ps : Array Value} (h : SqL K H a xs) (hP : H P = some (.tbl ps)) (hn : K.lookup P = none) : a ≠ P := by
  rintro rfl
  rcases h with (h | ⟨o, h⟩) | h
  · rw [hP] at h; cases h
  · rw [hP] at h; cases h
  · obtain ⟨_, _, _, e, _⟩ := h
    rw [hn] at e; cases e
end SH
namespace Hq
open PySem PySem.Spec PyProof.Rows L2 He
/-! ### a Hook that leaves the tables of code objects out -/
def rmT (K : PySem.W.Frag) : PySem.W.Frag := K.filter fun p => match p.2 with
  | ⟨.none, _, .fields vs, _⟩ => !vs.isEmpty
  | _ => true
def frT (n : Nat) (g : Addr → Option Obj) : PySem.W.Frag := rmT (frQ n g)
theorem frT_in {n : Nat} {h : Heap} : (frT n h.get?).In h := by
  intro b o e
  have m0 : (b, o) ∈ frT n h.get? := PySem.W.mem_of_lookupK e
  unfold frT rmT at m0
  have m := (List.mem_filter.mp m0).1
  obtain ⟨a, _, e2⟩ := List.mem_filterMap.mp (show (b, o) ∈ List.filterMap _ _ from m)
  cases q : h.get? a with
  | none => rw [q] at e2; cases e2
  | some u =>
    rw [q] at e2
    cases e2
    exact q
def hookT (n : Nat) (fa : List Fa) (fn : List DefD) (xs : List XD) (ex : PySem.W.Frag → Bool) (prog : Program) : PySem.W.Hook where
  α := AlQ
  obs := fun s => obsQ fa fn xs ex prog (frT n s.heap.get?)
  val := fun _ => valQ fn xs
  says := fun _ h => ∃ K : PySem.W.Frag, K.In h ∧ obsQ fa fn xs ex prog K = valQ fn xs
  of := fun _ _ e => ⟨_, frT_in, e⟩
  keeps := fun _ _ _ ⟨K, hK, c⟩ k => ⟨K, PySem.W.Frag.In.keeps hK k, c⟩
end Hq
end

section
namespace SH
open PySem PySem.Spec PyProof.Rows L2 LamX
/-! ### defs over any exceptions: called by keywords, where no showing is under way, with their code known -/
def DefLX (CX : CXT) (P : Program) (w : World) (K : PySem.W.Frag) (mg : Str → Option Value) (base : Heap) (x : Str) (k : Nat) (ps : List Str) (sp : Sp) : Prop :=
  ∃ f fd, FnOk P w K mg base CX k f fd ps sp ∧ mg x = some (.ref f) ∧ PySem.W.keepIn K (.ref f) = true ∧ Binds K fd ps [] ∧ ∃ oc od osl, K.lookup f = some ⟨oc, od, .func fd, osl⟩
def DefGX (CX : CXT) (P : Program) (w : World) (K : PySem.W.Frag) (mg : Str → Option Value) (base : Heap) (x : Str) (k : Nat) (ps : List Str) (sp : Sp) : Prop :=
  ∃ f fd, FnG P w K mg base CX k f fd ps sp ∧ mg x = some (.ref f) ∧ PySem.W.keepIn K (.ref f) = true ∧ Binds K fd ps [] ∧ ∃ oc od osl, K.lookup f = some ⟨oc, od, .func fd, osl⟩
section
variable {CX : CXT} {P : Program} {w : World} {K : PySem.W.Frag} {mg : Str → Option Value} {base : Heap} {x : Str} {st : Stmt} {N ps : List Str} {k : Nat} {sp : Sp}
theorem TopD.okLX (T : TopD K mg x st) (S : FnScope N ps (defScope st))
    (hb : ∀ (kV doc pm : Value) (an : Option Addr) (cdv ct : Value) (us : List Value), us.length = ps.length → bindArgs (PySem.W.fnOf x x (defArgs st) (defBody st) (defScope st) .none kV doc pm an cdv ct) ⟨us, []⟩ = pure (ps.zip us))
    (len : ∀ vs H Q E, sp vs H Q E → vs.length = ps.length)
    (hbody : ∀ (f : Addr) (cdv : Value) (A : Around) (outer : List Env) (s : Shared) (H : Hp) (vs : List V) (Q : VK) (E : XK), Room k (A.deeper (envOfC x (defScope st) s.heap.objs.size f cdv)) → sp vs H Q E →
      ∃ t, PSs (cxOf CX P w K mg base N x (defScope st) f cdv A outer s H E) (defBody st) t ∧ t { nx := fun _ H' => Q .non H', rt := Q } (start N vs) H) : DefLX CX P w K mg base x (k + 1) ps sp := by
  obtain ⟨f, fd, F, hm⟩ := T
  obtain ⟨oc, od, dV, kV, doc, pm, an, cdv, ct, osl, _, lk, _, _, _⟩ := F.ex
  exact ⟨f, fd, F.ok S len fun cdv A outer s H vs Q E hr h => hbody f cdv A outer s H vs Q E hr h, hm, F.kp, F.bindsN hb, oc, od, osl, lk⟩
theorem TopD.okGX (T : TopD K mg x st) (S : FnScope N ps (defScope st))
    (hb : ∀ (kV doc pm : Value) (an : Option Addr) (cdv ct : Value) (us : List Value), us.length = ps.length → bindArgs (PySem.W.fnOf x x (defArgs st) (defBody st) (defScope st) .none kV doc pm an cdv ct) ⟨us, []⟩ = pure (ps.zip us))
    (len : ∀ vs H Q E, sp vs H Q E → vs.length = ps.length)
    (hbody : ∀ (f : Addr) (cdv : Value) (A : Around) (outer : List Env) (s : Shared) (H : Hp) (vs : List V) (Q : VK) (E : XK), (∀ c, CodeOf K mg x c → cdv = .ref c) → (A.deeper (envOfC x (defScope st) s.heap.objs.size f cdv)).guards = some [] → Room k (A.deeper (envOfC x (defScope st) s.heap.objs.size f cdv)) → sp vs H Q E →
      ∃ t, PSs (cxOf CX P w K mg base N x (defScope st) f cdv A outer s H E) (defBody st) t ∧ t { nx := fun _ H' => Q .non H', rt := Q } (start N vs) H) : DefGX CX P w K mg base x (k + 1) ps sp := by
  obtain ⟨f, fd, F, hm⟩ := T
  have hkp := F.kp
  have hbn := F.bindsN hb
  obtain ⟨oc, od, dV, kV, doc, pm, an, cdv, ct, osl, rfl, lk, hcd, _, _⟩ := F.ex
  refine ⟨f, _, ⟨len, ?_⟩, hm, hkp, hbn, _, _, _, lk⟩
  intro A outer s H args us vs Q E hg hr e0 hbd rv hsp
  obtain ⟨t, ht, hq⟩ := hbody f cdv A outer s H vs Q E (fun c hc => hc f _ _ _ _ hm lk) hg (hr.deeper _) hsp
  have old : ∀ b o, base.get? b = some o → s.heap.get? b = some o := fun b o e => (e0.bs b o e).1
  have kin : K.In s.heap := e0.mod.kin.keeps old
  have kinds : ∀ y ∈ ps.zip us, (defScope st).names.lookup y.1 = some .local ∨ ((defScope st).names.lookup y.1 = some .cell ∧ ((cellsFrom (s.heap.objs.size + 1) (defScope st).names []).lookup y.1).isSome = true) := by
    intro y hy
    have hz := S.par y.1 (List.of_mem_zip (show (y.1, y.2) ∈ ps.zip us from hy)).1
    exact hz.elim Or.inl fun z => Or.inr ⟨z, PySem.W.cellsFrom_some _ _ _ (Or.inl z)⟩
  apply codeAny_call_function hr.depth (kin _ _ lk) rfl S.co S.gen rfl (PySem.W.codeRec_of kin hcd)
  apply hbd
  apply wpAny_newFunctionEnv_cells S.kind kinds
  intro env he s1 x1
  subst he
  have I : Inv (cxOf CX P w K mg base N x (defScope st) f cdv A outer s H E) [] (start N vs) H s1 := inv_start S hr.hd e0 (len _ _ _ _ hsp) rv x1
  constructor
  · exact (e0.mod.nolimit.keeps old).keeps x1.toInCall.keep
  · apply codeAny_func
    apply wpAny_mono (ht.run [] s1 (start N vs) H _ I hq) ?_ (fun _ _ z => z)
    intro fl s' z
    cases fl with
    | brk => exact z.elim fun _ z => z.elim fun _ z => z.2.elim
    | cont => exact z.elim fun _ z => z.elim fun _ z => z.2.elim
    | next =>
      obtain ⟨σ', H', J, q⟩ := z
      exact ⟨.non, H', J.os, J.bare, J.base, J.hok, rfl, q⟩
    | ret u =>
      obtain ⟨v, σ', H', J, r, q⟩ := z
      exact ⟨v, H', J.os, J.bare, J.base, J.hok, r, q⟩
theorem DefLX.c (D : DefLX (L2.CX P w) P w K mg base x k ps sp) : DefC P w K mg base x k ps sp := by
  obtain ⟨f, fd, a, b, c, d, _⟩ := D
  exact ⟨f, fd, a, b, c, d⟩
end
section
variable {CX : CXT} {X : Cx} {x : Str} {k : Nat} {ps ks : List Str} {sp : Sp} {E : XK} {p pos : Pos} {e : Expr} {es : List Expr} {t tk : TA} {st : Stmt} {kws : List Keyword} {g : List Value → List Value} {gV : List V → List V}
theorem pe_dfGX (D : DefGX CX X.prog X.w X.K X.mg X.base x k ps sp) (gd : X.A.guards = some []) (hr : Room k X.A) (hx : Passes CX X E) (ha : PA X (e :: es) t) (hg : Gl X x := by rfl) (hdb : (x == ("__debug__" : Str)) = false := by decide)
    (hs : starEach (e :: es) X.env = (false, eval e X.env) :: starEach es X.env := by rfl) (hp : (backTo pos (starEach es X.env)).any (·.1) = false := by rfl) : PE X (.Call (.Name x p) (e :: es) [] pos) (tCall sp [] E t) := by
  obtain ⟨f, fd, F, hm, hk, hb, _⟩ := D
  constructor
  intro pins s σ H Q I h
  apply wpAny_Call_Name_kw (ld_glob I hg hm ?_ hdb)
  refine PySem.W.callWith_K (h₀ := X.base) I.ok.mod.kin hk (thn (ha.run pos pins s σ H _ I h) ?_) hs hp
  rintro us s1 ⟨vs, H1, I1, r, q⟩
  refine ⟨I1.kIn, ?_⟩
  rw [List.append_nil] at q
  have hl : us.length = ps.length := by
    rw [← r.length]
    exact F.len _ _ _ _ q
  have bd := hb s1 us I1.kIn (by rw [List.append_nil]; exact hl)
  rw [List.append_nil] at bd
  have run := F.run X.A X.stack s1 H1 ⟨us, []⟩ us vs Q E gd hr I1.env0 bd r q
  refine wpAny_call (codeAny_mono run ?_)
  intro res s2 z
  match res, z with
  | .error er, z => exact hx pins σ H1 s1 er s2 I1 z
  | .ok (.ret u), z => exact I1.after z
  | .ok .next, z => exact z.elim
  | .ok .brk, z => exact z.elim
  | .ok .cont, z => exact z.elim
theorem pe_dfKX (D : DefLX CX X.prog X.w X.K X.mg X.base x k ps sp) (T : TopD X.K X.mg x st)
    (hb : ∀ (kV doc pm : Value) (an : Option Addr) (cdv ct : Value) (us : List Value), us.length = ks.length → bindArgs (PySem.W.fnOf x x (defArgs st) (defBody st) (defScope st) .none kV doc pm an cdv ct) ⟨[], ks.zip us⟩ = pure (ps.zip (g us)))
    (hrel : ∀ {vs : List V} {us : List Value}, Vals vs us → vs.length = ks.length → Vals (gV vs) (g us)) (hr : Room k X.A) (hx : Passes CX X E) (hkw : PK X kws tk) (hg : Gl X x := by rfl)
    (hall : (backToKw pos (keywordEach kws X.env)).all (·.1.isSome) = true := by rfl) (hks : (backToKw pos (keywordEach kws X.env)).filterMap (·.1) = ks := by rfl) (hdb : (x == ("__debug__" : Str)) = false := by decide)
    (hpl : ((backTo pos (starEach [] X.env)).any (·.1) || (backToKw pos (keywordEach kws X.env)).any (·.1.isNone)) = false := by rfl) : PE X (.Call (.Name x p) [] kws pos) (tCallKw ks.length gV sp E tk) := by
  obtain ⟨f, fd, F, hm, hk, _, oc, od, osl, lk⟩ := D
  obtain ⟨f', fd', FD, hm'⟩ := T
  cases hm.symm.trans hm'
  obtain ⟨oc', od', dV, kV, doc, pm, an, cdv, ct, osl', rfl, lk', _, hD, _⟩ := FD.ex
  cases lk.symm.trans lk'
  rcases hD with ⟨_, rfl⟩ | ⟨e, _⟩
  · constructor
    intro pins s σ H Q I h
    apply wpAny_Call_Name_kw (ld_glob I hg hm ?_ hdb)
    apply PySem.W.callWith_KW0 (h₀ := X.base) I.ok.mod.kin hk hall ?_ hpl
    refine thn (hkw.run pos pins s σ H _ I h) ?_
    rintro ws s2 ⟨zs, H2, I2, rz, l, q⟩
    refine ⟨I2.kIn, ?_⟩
    rw [hks]
    have bd := BindsTo.of_eq (s := s2) (hb kV doc pm an cdv ct ws (rz.length.symm.trans l))
    have run := F.run X.A X.stack s2 H2 ⟨[], ks.zip ws⟩ (g ws) (gV zs) Q E hr I2.env0 bd (hrel rz l) q
    refine wpAny_call (codeAny_mono run ?_)
    intro res s3 z
    match res, z with
    | .error er, z => exact hx pins σ H2 s2 er s3 I2 z
    | .ok (.ret u), z => exact I2.after z
    | .ok .next, z => exact z.elim
    | .ok .brk, z => exact z.elim
    | .ok .cont, z => exact z.elim
  · exact absurd rfl e
end
/-! #### the end: tables, and a law whose def shows lists -/
section
open Classical in
theorem law_callTG {P : Program} {w : World} {K : PySem.W.Frag} {mg mb : Str → Option Value} {CX : CXT} {k : Nat} {fa a : Addr} {fd : FuncData} {x : Str} {sp : Sp} {s₁ : Shared} {vs : List Value} {ns : List Int} {cs : List (Addr × Addr)}
    (KX : K.In s₁.heap) (hns : s₁.heap.Ns mainGlobals mg) (hb : s₁.heap.Ns builtinsNs mb) (hbb : ∀ x : Str, x ≠ "__name__" → mb x = bootBuiltins x) (hlim : s₁.heap.NoLimit) (hg : s₁.gens = #[])
    (tabs : ∀ p ∈ cs, s₁.heap.get? p.2 = some { cls := .none, data := .fields #[] } ∧ K.lookup p.2 = none ∧ PySem.W.CodeHd s₁.heap p.1 p.2)
    (hbm : ∃ (bm : Addr) (ob : Obj), mg "__builtins__" = some (.ref bm) ∧ bm ≠ builtinsNs ∧ s₁.heap.get? bm = some ob ∧ ob.cls = .type "module" ∧ ob.dict = some builtinsNs ∧ ob.data = .plain)
    (ha : s₁.heap.get? a = some { cls := .type "list", data := .seq vs.toArray }) (hi : IntsAre vs ns) (hl : ns.length ≤ sizeLine) (hr : Room k callerA)
    (F : ∀ base : Heap, K.In base → base.Ns mainGlobals mg → (∀ p ∈ cs, TabB base mg p.1 p.2) → FnG P w K mg base CX k fa fd [x] sp) (hbind : ∀ (s : Shared) (u : Value), BindsTo s fd ⟨[u], []⟩ [(x, u)])
    (hsp : ∀ H : Hp, (∀ p ∈ cs, H p.2 = some (.tbl #[])) → SqL K H a (ns.map V.int) → sp [.ref a] H (fun v _ => v = .bl true) fun _ _ _ => False)
    (hCX : ∀ H e s', CX [] H s₁ (fun _ _ _ => False) e s' → False) :
    codeAny (model P w) callerA (.call (.ref fa) ⟨[.ref a], []⟩) (fun r s' => r = .ok (.ret (.bool true)) ∧ OldK s₁.heap s'.heap ∧ s'.os = s₁.os ∧ AllBare s'.gens) s₁ := by
  obtain ⟨H, hH⟩ : ∃ H : Hp, H = fun b => if b = a ∧ K.lookup a = none then some (.frz { cls := .type "list", data := .seq vs.toArray } (.lst (ns.map V.int))) else if b ∈ cs.map (·.2) then some (.tbl #[]) else none := ⟨_, rfl⟩
  have isT : ∀ b, b ∈ cs.map (·.2) → s₁.heap.get? b = some { cls := .none, data := .fields #[] } ∧ K.lookup b = none := by
    intro b hb
    obtain ⟨p, hp, rfl⟩ := List.mem_map.mp hb
    exact ⟨(tabs p hp).1, (tabs p hp).2.1⟩
  have aT : a ∉ cs.map (·.2) := by
    intro z
    have e := (isT a z).1.symm.trans ha
    cases e
  have at_ : ∀ b u, H b = some u → (b = a ∧ K.lookup a = none ∧ u = .frz { cls := .type "list", data := .seq vs.toArray } (.lst (ns.map V.int))) ∨ (b ∈ cs.map (·.2) ∧ u = .tbl #[]) := by
    intro b u e
    rw [hH] at e
    by_cases c : b = a ∧ K.lookup a = none
    · have e' := (if_pos c).symm.trans e
      cases e'
      exact .inl ⟨c.1, c.2, rfl⟩
    · have e' := (if_neg c).symm.trans e
      by_cases d : b ∈ cs.map (·.2)
      · have e2 := (if_pos d).symm.trans e'
        cases e2
        exact .inr ⟨d, rfl⟩
      · have e2 := (if_neg d).symm.trans e'
        cases e2
  have tT : ∀ p ∈ cs, H p.2 = some (.tbl #[]) := by
    intro p hp
    have m : p.2 ∈ cs.map (·.2) := List.mem_map.mpr ⟨p, hp, rfl⟩
    have ne : p.2 ≠ a := fun z => aT (z ▸ m)
    rw [hH]
    exact (if_neg fun z => ne z.1).trans (if_pos m)
  have nums := vals_ints hi
  have many := hi.length
  have seq : SqL K H a (ns.map V.int) := by
    rcases h : K.lookup a with _ | o
    · refine .inl (.inr ⟨{ cls := .type "list", data := .seq vs.toArray }, ?_⟩)
      rw [hH]
      exact if_pos ⟨rfl, h⟩
    · have e := (KX a o h).symm.trans ha
      cases e
      exact .inr ⟨_, vs.toArray, _, h, rfl, rfl, rfl, by rw [List.size_toArray, many]; exact hl, by simpa using nums⟩
  have hok : HOk P w H s₁.heap := by
    intro b u e
    rcases at_ b u e with ⟨rfl, _, rfl⟩ | ⟨m, rfl⟩
    · exact ⟨ha, by rw [List.length_map]; exact hl, vs, _, nums, ha⟩
    · exact (isT b m).1
  have keep : ∀ {b o}, s₁.heap.get? b = some o → H b = none → (hidT s₁.heap H).get? b = some o := fun e n => hidT_get e n
  -- what is neither the script nor a table stays known
  have free : ∀ {b : Addr} {o : Obj}, s₁.heap.get? b = some o → (∀ us n, o.data ≠ .seq us n) → o.data ≠ .fields #[] → H b = none := by
    intro b o e n1 n2
    rcases h : H b with _ | u
    · rfl
    · rcases at_ b u h with ⟨rfl, _, _⟩ | ⟨m, _⟩
      · cases ha.symm.trans e
        exact (n1 _ _ rfl).elim
      · cases (isT b m).1.symm.trans e
        exact (n2 rfl).elim
  have nsB : ∀ {b m}, s₁.heap.Ns b m → (hidT s₁.heap H).Ns b m := by
    rintro b m ⟨o, es, ep, e, d, r⟩
    exact ⟨o, es, ep, keep e (free e (by rw [d]; intro _ _ z; cases z) (by rw [d]; intro z; cases z)), d, r⟩
  have kinB : K.In (hidT s₁.heap H) := by
    intro b o e
    apply keep (KX b o e)
    rcases h : H b with _ | u
    · rfl
    · rcases at_ b u h with ⟨rfl, n, _⟩ | ⟨m, _⟩
      · cases n.symm.trans e
      · cases (isT b m).2.symm.trans e
  have TB : ∀ p ∈ cs, TabB (hidT s₁.heap H) mg p.1 p.2 := by
    intro p hp
    obtain ⟨e1, _, e3⟩ := tabs p hp
    refine ⟨?_, ?_, ?_⟩
    · obtain ⟨o, us, file, tf, flags, tg, inF, text, tt, c1, c2, c3, c4, rest⟩ := e3
      refine ⟨o, us, file, tf, flags, tg, inF, text, tt, keep c1 (free c1 (by rw [c3]; intro _ _ z; cases z) (by
        rw [c3]
        intro z
        cases z
        simp at c4)), c2, c3, c4, rest⟩
    · obtain ⟨bm, ob, b1, b2, b3, b4, b5, b6⟩ := hbm
      refine ⟨bm, ob, b1, b2, fun z => ?_, fun z => ?_, keep b3 (free b3 (by rw [b6]; intro _ _ z; cases z) (by rw [b6]; intro z; cases z)), b4, b5, b6⟩
      · obtain ⟨o, es, ep, e, d, _⟩ := hns
        rw [z, e] at b3
        cases b3
        rw [d] at b6
        cases b6
      · rw [z, e1] at b3
        cases b3
        cases b6
    · intro z
      obtain ⟨o, es, ep, e, d, _⟩ := hns
      rw [z, e1] at e
      cases e
      cases d
  obtain ⟨mc, lim1, lim2⟩ := hlim
  have md : Mod K mg (hidT s₁.heap H) := ⟨kinB, nsB hns, ⟨mb, nsB hb, hbb⟩, ⟨mc, nsB lim1, lim2⟩⟩
  have e0 : Env0 P w K mg (hidT s₁.heap H) callerA [] s₁ H := ⟨rfl, md, fun b o e => of_hidT e, Nat.le_of_eq (hidT_size _ _), trivial, fun b z => (by cases z), hok, .of_eq hg⟩
  have run := (F _ kinB (nsB hns) TB).run callerA [] s₁ H ⟨[.ref a], []⟩ [.ref a] [.ref a] _ _ rfl hr e0 (hbind s₁ (.ref a)) (.cons rfl .nil) (hsp H tT seq)
  refine codeAny_mono run ?_
  intro r s' z
  match r, z with
  | .error e, z => exact (hCX H e s' z).elim
  | .ok .next, z => exact z.elim
  | .ok .brk, z => exact z.elim
  | .ok .cont, z => exact z.elim
  | .ok (.ret u), z =>
    obtain ⟨v, H', os, bare, un, hok', rv, q⟩ := z
    cases (show v = .bl true from q)
    cases (show u = Value.bool true from rv)
    have stay : ∀ b o, b ∉ cs.map (·.2) → s₁.heap.get? b = some o → s'.heap.get? b = some o := by
      intro b o n e
      rcases h : H b with _ | u
      · exact un.keep b o e h (fun z => by cases z) (fun z => by cases z)
      · rcases at_ b u h with ⟨rfl, _, rfl⟩ | ⟨m, _⟩
        · have z1 := (hok b _ h).1
          have z2 := (hok' b _ (un.frzs b _ _ h)).1
          cases z1.symm.trans e
          exact z2
        · exact (n m).elim
    have grow : ∀ p ∈ cs, ∃ more : Array Value, s'.heap.get? p.2 = some { cls := .none, data := .fields more } := by
      intro p hp
      obtain ⟨more, z⟩ := un.tbls p.2 #[] (tT p hp)
      exact ⟨_, hok' p.2 _ z⟩
    refine ⟨rfl, ⟨fun b o e => ?_, fun b o e => ?_⟩, os, bare⟩
    · by_cases n : b ∈ cs.map (·.2)
      · obtain ⟨p, hp, rfl⟩ := List.mem_map.mp n
        obtain ⟨more, g⟩ := grow p hp
        obtain ⟨t1, _, t3⟩ := tabs p hp
        cases t1.symm.trans e
        exact .inr (.inl ⟨(t3.tab t1).isCodeTable, rfl, #[], more, rfl, by rw [Array.empty_append]; exact g⟩)
      · exact .inl (stay b o n e)
    · by_cases n : b ∈ cs.map (·.2)
      · obtain ⟨p, hp, rfl⟩ := List.mem_map.mp n
        obtain ⟨more, g⟩ := grow p hp
        exact ⟨_, g⟩
      · exact ⟨o, stay b o n e⟩
end
theorem walk_ofTG {l : PySem.W.OpenLaw} {n k : Nat} {q : Program} {loose : List Str} {XP : (Str → Option Value) → Heap → Prop} {YP : World → Heap → Prop} {d : DefRec} {CX : World → CXT} {x : Str}
    (hn : l.most = some n) (hn2 : n ≤ sizeLine) (hdf : d.params.defaults = []) (hr : Room k callerA)
    (F : ∀ (w : World) (mg : Str → Option Value) (fa : Addr) (h : Heap), YP w h → h.Ns mainGlobals mg → mg d.name = some (.ref fa) → TabsOf q h → ∃ (K : PySem.W.Frag) (fd : FuncData) (cs : List (Addr × Addr)) (sp : Sp), K.In h ∧
      (∀ p ∈ cs, h.get? p.2 = some { cls := .none, data := .fields #[] } ∧ K.lookup p.2 = none ∧ PySem.W.CodeHd h p.1 p.2) ∧ (∀ (s : Shared) (u : Value), BindsTo s fd ⟨[u], []⟩ [(x, u)]) ∧
      (∀ (H : Hp) (a : Addr) (ns : List Int), ns.length ≤ n → (∀ p ∈ cs, H p.2 = some (.tbl #[])) → SqL K H a (ns.map V.int) → sp [.ref a] H (fun v _ => v = .bl true) fun _ _ _ => False) ∧
      ∀ base : Heap, K.In base → base.Ns mainGlobals mg → (∀ p ∈ cs, TabB base mg p.1 p.2) → FnG l.prog w K mg base (CX w) k fa fd [x] sp)
    (hCX : ∀ (w : World) (H : Hp) (s : Shared) (e : Value) (s' : Shared), CX w [] H s (fun _ _ _ => False) e s' → False) :
    PySem.W.WalkO q loose XP YP l.row.toRowW d [] (fun f vs => PySem.call f vs) := by
  apply Att.attach_call hn hdf
  intro w s₀ s₁ mg mb fa o pm cd doc a vs ns G Y ho hd hcd hmg hobj hints hlen hg
  obtain ⟨K, fd, cs, sp, kin, tabs, hb, hsp, hF⟩ := F w mg fa _ Y G.T.g hmg fun K x c P d X hr ht => PySem.W.tab_of G.T X hr ht
  apply law_callTG kin G.T.g G.T.b G.T.builtins G.T.nolimit hg tabs G.T.bmain hobj hints (Nat.le_trans hlen hn2) hr hF hb
  · exact fun H t seq => hsp H a ns hlen t seq
  · exact fun H e s' z => hCX w H s₁ e s' z
end SH
end

section
namespace SH
open PySem PySem.Spec PyProof.Rows L2
/-- two defs' tables are two -/
def tabNeB (K : PySem.W.Frag) (x y : Str) : Bool := match PySem.W.tabIn K x, PySem.W.tabIn K y with
  | some (_, P), some (_, P') => decide (P ≠ P')
  | _, _ => false
theorem tabNeB_ok {K : PySem.W.Frag} {x y : Str} {c P c' P' : Addr} (h : tabNeB K x y = true) (e : PySem.W.tabIn K x = some (c, P)) (e' : PySem.W.tabIn K y = some (c', P')) : P ≠ P' := by
  unfold tabNeB at h
  rw [e, e'] at h
  exact of_decide_eq_true h
/-! ### slices at a place -/
theorem cutV_take {xs : List V} {n : Nat} : cutV xs none (some (n : Int)) = xs.take n := by
  unfold cutV
  rw [HT.sIx_none, HT.sIx_nat, List.drop_zero, Nat.sub_zero]
  rcases Nat.le_total n xs.length with h | h
  · rw [Nat.min_eq_left h]
  · rw [Nat.min_eq_right h, List.take_of_length_le (Nat.le_refl _), List.take_of_length_le h]
theorem cutV_drop {xs : List V} {n : Nat} : cutV xs (some (n : Int)) none = xs.drop n := by
  unfold cutV
  rw [HT.sIx_none, HT.sIx_nat]
  rcases Nat.le_total n xs.length with h | h
  · rw [Nat.min_eq_left h]
    exact List.take_of_length_le (by rw [List.length_drop]; exact Nat.le_refl _)
  · rw [Nat.min_eq_right h, List.drop_of_length_le (Nat.le_refl _), List.drop_of_length_le h]
    exact List.take_of_length_le (Nat.zero_le _)
theorem hu65_of {A : Around} {k : Nat} (hr : Room k A) : A.units + 65 < cLine := by have := hr.un; omega
theorem op_notInDK {X : Cx} {K : PySem.W.Frag} (hK : X.K = K) (hu : X.A.units + 65 < cLine) : OpR X (compareOp .NotIn) (rNotInD K) := by subst hK; exact op_notInD hu
end SH
end

section
namespace SH
open PySem PySem.Spec PyProof.Rows L2 TL StX SkE
/-! ### texts -/
theorem tl_len (z : Str) : z.length = (tl z).length := len_tl z
section
variable {K : PySem.W.Frag} {σ : L2.St} {H : Hp} {Q : VK} {z y : Str} {te to ta : TE} {gt : TG} {tt : TT}
/-! #### comprehensions over a text's signs -/
def lcS (x : V) (H : Hp) (g : TG) (tt : TT) (te : TE) (ws : List Nat) (σ : L2.St) (Q : VK) : Prop := ∃ z, x = .str z ∧ lcJ g tt te ws σ Q (Its z) H
theorem g_lcS {ws : List Nat} (q : to σ H fun x H1 => lcS x H1 gt tt te ws σ Q) : tLc (iStr to) gt tt te ws σ H Q := q
theorem lc_sign {g : TG} {tt : TT} {te : TE} {vs : List Nat} {H1 : Hp} {D : Addr} {Qd : Hp → Prop} (Pv : Nat → Hp → Prop) (h0 : Pv 0 (upd H1 D (.lst [])))
    (hs : ∀ i c H, z.cps[i]? = some c → Pv i H → g (.str ⟨#[c]⟩) (wipe σ vs) H fun σ2 H2 => wipe σ2 vs = wipe σ vs ∧ tt σ2 H2 fun b H3 =>
      if b = true then te σ2 H3 fun y H4 => ∃ acc, H4 D = some (.lst acc) ∧ acc.length < sizeLine ∧ Pv (i + 1) (upd H4 D (.lst (acc ++ [y]))) else Pv (i + 1) H3) (hd : ∀ H, Pv z.cps.size H → Qd H) :
    ∃ W : Nat → Nat → Hp → Prop, (∃ m, W 0 m (upd H1 D (.lst []))) ∧ ∀ i m H, W i m H →
      ((Its z).stop i H ∧ Qd H) ∨ ((Its z).go i H ∧ ∃ Nx : Hp → Prop, (∀ H', Nx H' → ∃ m', m' < m ∧ W (i + 1) m' H') ∧ ∀ x H', (Its z).yld i H x H' → g x (wipe σ vs) H' fun σ2 H2 => wipe σ2 vs = wipe σ vs ∧ tt σ2 H2 fun b H3 =>
        if b = true then te σ2 H3 fun y H4 => ∃ acc, H4 D = some (.lst acc) ∧ acc.length < sizeLine ∧ Nx (upd H4 D (.lst (acc ++ [y]))) else Nx H3) := by
  refine ⟨fun i m H => m = z.cps.size - i ∧ i ≤ z.cps.size ∧ Pv i H, ⟨z.cps.size, by simp, Nat.zero_le _, h0⟩, ?_⟩
  rintro i m H ⟨rfl, hi, p⟩
  by_cases hlt : i < z.cps.size
  · refine .inr ⟨hlt, Pv (i + 1), fun H' p' => ⟨z.cps.size - (i + 1), by omega, rfl, hlt, p'⟩, fun x H' y => ?_⟩
    obtain ⟨e, c, hc, rfl⟩ := y
    subst e
    exact hs i c _ hc p
  · have e : i = z.cps.size := by omega
    subst e
    exact .inl ⟨Nat.le_refl _, hd _ p⟩
/-- a comprehension over a text's signs that changes nothing: the list of f c, where test c -/
theorem lcS_pure {ws : List Nat} {j : Nat} (f : Nat → V) (c : Nat → Bool) (hz : z.length ≤ 1000000) (hw : ∀ x, wipe ((wipe σ ws).set j (some x)) ws = wipe σ ws)
    (ht : ∀ k H1, k ∈ tl z → Off [] H H1 → ∀ (M : Bool → Hp → Prop), (∀ H2, Off [] H1 H2 → M (c k) H2) → tt ((wipe σ ws).set j (some (.str ⟨#[k]⟩))) H1 M)
    (he : ∀ k H1, k ∈ tl z → c k = true → Off [] H H1 → ∀ (M : VK), (∀ H2, Off [] H1 H2 → M (f k) H2) → te ((wipe σ ws).set j (some (.str ⟨#[k]⟩))) H1 M)
    (q : ∀ D H1, H D = none → Off [] H H1 → H1 D = some (.lst (((tl z).filter c).map f)) → Q (.ref D) H1) : lcS (.str z) H (gName j) tt te ws σ Q := by
  refine ⟨z, rfl, fun D hD => lc_sign (z := z) (fun i H1 => Off [] H H1 ∧ H1 D = some (.lst ((((tl z).take i).filter c).map f))) ⟨.new hD, by simp [upd_same]⟩ (fun i k H1 hi p => ?_) (fun H1 p => q D H1 hD p.1 ?_)⟩
  · have hk : (tl z)[i]? = some k := by
      rw [← hi]
      exact Array.getElem?_toList ..
    have hm : k ∈ tl z := List.mem_of_getElem? hk
    have hi' : i < (tl z).length := (List.getElem?_eq_some_iff.mp hk).1
    have tk : (tl z).take (i + 1) = (tl z).take i ++ [k] := by rw [List.take_add_one, hk]; rfl
    have hl := len_tl z
    show wipe ((wipe σ ws).set j (some (.str ⟨#[k]⟩))) ws = wipe σ ws ∧ _
    refine ⟨hw _, ht k H1 hm p.1 _ fun H2 o2 => ?_⟩
    have p2 := p.1.trans o2
    have d2 := o2.at nin_nil p.2
    cases hc : c k with
    | false =>
      refine ⟨p2, ?_⟩
      rw [tk, List.filter_append, List.map_append]
      simp [hc, d2]
    | true =>
      show te _ H2 _
      refine he k H2 hm hc p2 _ fun H3 o3 => ?_
      have d3 := o3.at nin_nil d2
      refine ⟨_, d3, ?_, ?_, ?_⟩
      · rw [List.length_map, sizeLine_eq]
        have := List.length_filter_le c ((tl z).take i)
        rw [List.length_take] at this
        omega
      · exact (p2.trans o3).mut hD
      · rw [upd_same, tk, List.filter_append, List.map_append]
        simp [hc]
  · rw [p.2]
    have : (tl z).take z.cps.size = tl z := List.take_of_length_le (by simp [tl])
    rw [this]
/-! #### of texts -/
def rLenS : List V → Hp → VK → Prop := fun xs H Q => ∃ z, xs = [V.str z] ∧ z.length ≤ sizeLine ∧ Q (.int ((z.length : Nat) : Int)) H
theorem c_lenS {X : Cx} : CallR X (.builtin "len") rLenS := by
  intro pins s σ H xs us Q I r h
  obtain ⟨z, e, hz, q⟩ := h
  exact call_len pins s σ H xs us Q I r ⟨.str z, z.length, e, ⟨hz, rfl⟩, q⟩
theorem g_lenS (h : z.length ≤ sizeLine) (q : Q (.int ((z.length : Nat) : Int)) H) : rLenS [.str z] H Q := ⟨z, rfl, h, q⟩
theorem g_slS {lo hi : Option Int} (h : z.length ≤ sizeLine) (q : Q (.str (cutS z lo hi)) H) : rSlS (.str z) lo hi H Q := ⟨z, rfl, h, q⟩
theorem g_ixS {i : Int} {c : Nat} (h : z.length ≤ sizeLine) (e : atI (tl z) i = some c) (q : Q (.str ⟨#[c]⟩) H) : rIxS (.str z) (.int i) H Q := ⟨z, i, c, rfl, rfl, h, e, q⟩
def rLeS : R2 := fun x y H Q => ∃ i j, x = .str i ∧ y = .str j ∧ Q (.bl (!decide (j.cps.toList < i.cps.toList))) H
theorem op_leS {X : Cx} : OpR X (compareOp .LtE) rLeS := op_le_str
theorem g_leS (q : Q (.bl (!decide (tl y < tl z))) H) : rLeS (.str z) (.str y) H Q := ⟨z, y, rfl, rfl, q⟩
def rNiS : R2 := fun x y H Q => ∃ (c : Nat) (z : Str), x = .str ⟨#[c]⟩ ∧ y = .str z ∧ Q (.bl (!decide (c ∈ z.cps.toList))) H
theorem op_niS {X : Cx} : OpR X (compareOp .NotIn) rNiS := op_notIn_sign
theorem g_niS {c : Nat} (q : Q (.bl (!decide (c ∈ tl z))) H) : rNiS (.str ⟨#[c]⟩) (.str z) H Q := ⟨c, z, rfl, rfl, q⟩
theorem g_tM1 {r : V → List V → Hp → VK → Prop} (q : to σ H fun x H1 => (∃ a, x = .str a) ∧ te σ H1 fun y H2 => r x [y] H2 Q) : tM1 r to te σ H Q := q
theorem g_isStr {M : Prop} (q : M) : (∃ a, V.str z = .str a) ∧ M := ⟨⟨z, rfl⟩, q⟩
def rSplit : V → List V → Hp → VK → Prop := fun x xs H Q => ∃ a b, x = .str a ∧ xs = [.str b] ∧ (b.length == 0) = false ∧ a.length + 2 ≤ sizeLine ∧ rNewStrs (Txt.split a b) H Q
def rPartn : V → List V → Hp → VK → Prop := fun x xs H Q => ∃ a b, x = .str a ∧ xs = [.str b] ∧ (b.length == 0) = false ∧ a.length ≤ sizeLine ∧ ∀ p, H p = none → Q (.ref p) (upd H p (.tup [.str (Txt.partition a b).1, .str (Txt.partition a b).2.1, .str (Txt.partition a b).2.2]))
def rJoin (K : PySem.W.Frag) : V → List V → Hp → VK → Prop := fun x xs H Q => ∃ a p, ∃ ys : List Str, x = .str a ∧ xs = [.ref p] ∧ (SqL K H p (ys.map V.str) ∨ SqT K H p (ys.map V.str)) ∧ (ys.map (·.length)).sum + ys.length * a.length ≤ 16777216 ∧ Q (.str (Txt.join a ys)) H
theorem g_split (hy : (y.length == 0) = false) (hz : z.length + 2 ≤ sizeLine) (q : ∀ p, H p = none → Q (.ref p) (upd H p (.lst ((Txt.split z y).map V.str)))) : rSplit (.str z) [.str y] H Q := ⟨z, y, rfl, rfl, hy, hz, q⟩
theorem g_partn (hy : (y.length == 0) = false) (hz : z.length ≤ sizeLine) (q : ∀ p, H p = none → Q (.ref p) (upd H p (.tup [.str (Txt.partition z y).1, .str (Txt.partition z y).2.1, .str (Txt.partition z y).2.2]))) : rPartn (.str z) [.str y] H Q := ⟨z, y, rfl, rfl, hy, hz, q⟩
theorem g_join {p : Addr} {ys : List Str} (h : SqL K H p (ys.map V.str)) (hz : (ys.map (·.length)).sum + ys.length * z.length ≤ 16777216) (q : Q (.str (Txt.join z ys)) H) : rJoin K (.str z) [.ref p] H Q := ⟨z, p, ys, rfl, rfl, .inl h, hz, q⟩
theorem pe_splitS {X : Cx} {o e : Expr} {apos pos : Pos} (ho : PE X o to) (he : PE X e te) (hs : starEach [e] X.env = [(false, eval e X.env)] := by rfl) (hbase : attributeBase o "split" X.env (eval o X.env) = eval o X.env := by rfl) (hline : (apos.endLine == pos.line) = true := by rfl) :
    PE X (.Call (.Attribute o "split" apos) [e] [] pos) (tM1 rSplit to te) := pe_split ho he hs hbase hline
theorem pe_partnS {X : Cx} {o e : Expr} {apos pos : Pos} (ho : PE X o to) (he : PE X e te) (hs : starEach [e] X.env = [(false, eval e X.env)] := by rfl) (hbase : attributeBase o "partition" X.env (eval o X.env) = eval o X.env := by rfl) (hline : (apos.endLine == pos.line) = true := by rfl) :
    PE X (.Call (.Attribute o "partition" apos) [e] [] pos) (tM1 rPartn to te) := pe_partition ho he hs hbase hline
theorem pe_joinS {X : Cx} {o e : Expr} {apos pos : Pos} (hK : X.K = K) (ho : PE X o to) (he : PE X e te) (hs : starEach [e] X.env = [(false, eval e X.env)] := by rfl) (hbase : attributeBase o "join" X.env (eval o X.env) = eval o X.env := by rfl) (hline : (apos.endLine == pos.line) = true := by rfl) :
    PE X (.Call (.Attribute o "join" apos) [e] [] pos) (tM1 (rJoin K) to te) := by
  subst hK
  exact pe_join ho he hs hbase hline
/-- int(text) -/
def rIntS : List V → Hp → VK → Prop := fun xs H Q => ∃ a n, xs = [.str a] ∧ PySem.intText? a = some n ∧ a.length ≤ 640 ∧ Q (.int n) H
theorem c_intS {X : Cx} : CallR X (.type "int") rIntS := call_int_str
theorem g_intS {n : Int} (e : PySem.intText? z = some n) (h : z.length ≤ 640) (q : Q (.int n) H) : rIntS [.str z] H Q := ⟨z, n, rfl, e, h, q⟩
/-- str(x), x an int or a text -/
def strV : V → Str
  | .int i => toString i
  | .str z => z
  | _ => Str.empty
def rStr : List V → Hp → VK → Prop := fun xs H Q => (∃ i : Int, xs = [.int i] ∧ i.natAbs.log2 < 1920 ∧ Q (.str (toString i)) H) ∨ ∃ a, xs = [.str a] ∧ Q (.str a) H
theorem c_strA {X : Cx} : CallR X (.type "str") rStr := by
  intro pins s σ H xs us Q I r h
  rcases h with ⟨i, e, h1, q⟩ | ⟨a, e, q⟩
  · exact call_str_int pins s σ H xs us Q I r ⟨i, e, h1, q⟩
  · exact call_str_str pins s σ H xs us Q I r ⟨a, e, q⟩
theorem log_ok {i : Int} (h0 : -(10 ^ 30) ≤ i) (h1 : i ≤ 10 ^ 30) : i.natAbs.log2 < 1920 := by
  by_cases z : i.natAbs = 0
  · rw [z]
    decide
  · rw [Nat.log2_lt z]
    have : i.natAbs ≤ 10 ^ 30 := by omega
    exact Nat.lt_of_le_of_lt this (Nat.lt_of_lt_of_le (by decide +kernel : (10 : Nat) ^ 30 < 2 ^ 128) (Nat.pow_le_pow_right (by decide) (by decide)))
theorem g_strI {i : Int} (h : i.natAbs.log2 < 1920) (q : Q (.str (toString i)) H) : rStr [.int i] H Q := .inl ⟨i, rfl, h, q⟩
theorem g_strS (q : Q (.str z) H) : rStr [.str z] H Q := .inr ⟨z, rfl, q⟩
/-! #### (a, *xs) -/
theorem pa_starK {X : Cx} {e : Expr} {es : List Expr} {p : Pos} {t : TA} (hK : X.K = K) (he : PE X e te) (hr : PA X es t) (hs : starEach (.Starred e p :: es) X.env = (true, eval e X.env) :: starEach es X.env := by rfl) : PA X (.Starred e p :: es) (tStar K te t) := by
  subst hK
  exact pa_star he hr hs
theorem g_star {t : TA} {QA : List V → Hp → Prop} (q : te σ H fun x H1 => ∃ p xs, x = V.ref p ∧ (SqT K H1 p xs ∨ SqL K H1 p xs) ∧ t σ H1 fun ys H2 => QA (xs ++ ys) H2) : tStar K te t σ H QA := q
end
end SH
end

section
/-! #### the walk's words -/
local macro_rules | `(tactic| walk_at "ne0") => `(tactic| first
  | assumption
  | (refine Ne.symm ?_; assumption))
local macro_rules | `(tactic| walk_at "ne") => `(tactic| first
  | assumption
  | (refine Ne.symm ?_; assumption)
  | (refine' L2.ne_of_none ?gx (by assumption); (case gx => walk_at "hp"))
  | (refine' Ne.symm (L2.ne_of_none ?gx (by assumption)); (case gx => walk_at "hp")))
local macro_rules | `(tactic| walk_at "hp") => `(tactic| first
  | assumption
  | exact L2.upd_same
  | (refine' SH.upd_new ?gh (by assumption); (case gh => walk_at "hp"))
  | (refine' (L2.upd_ne ?gn).trans ?gh; (case gn => walk_at "ne0"); (case gh => walk_at "hp"))
  | (refine' SH.Off.at (by assumption) ?gn ?gh; (case gn => walk_at "nin"); (case gh => walk_at "hp")))
local macro_rules | `(tactic| walk_at "nin") => `(tactic| first
  | exact SH.nin_nil
  | (refine SH.nin_cons ?_ ?_; (· walk_at "ne0"); (· walk_at "nin")))
local macro_rules | `(tactic| walk_at "sq") => `(tactic| first
  | assumption
  | (apply L2.SqL.of; (· walk_at "hp"))
  | (apply L2.SqT.of; (· walk_at "hp"))
  | (refine' SH.seqT_new ?gx (by assumption); (case gx => walk_at "sq"))
  | (refine' SH.seqL_new ?gx (by assumption); (case gx => walk_at "sq"))
  | (refine' SH.Off.seqT (by assumption) ?gx; (case gx => walk_at "sq"))
  | (refine' SH.Off.seqL (by assumption) ?gy ?gx; (case gx => walk_at "sq"); (case gy => walk_at "nin")))
local macro_rules | `(tactic| walk_at "kd") => `(tactic| first
  | assumption | exact SH.KdV.int _ | exact SH.KdV.bl _ | exact SH.KdV.str _ | exact SH.KdV.non
  | (apply SH.KdV.tup; (· walk_at "sq")) | (apply SH.KdV.lst; (· walk_at "sq")))
/-- a way that cannot be -/
local macro_rules | `(tactic| walk_at "no") => `(tactic| (exfalso; first | assumption | omega | contradiction | (simp_all; done)))
/-- one step -/
local macro_rules | `(tactic| walk_at "g1") => `(tactic| with_reducible first
  | refine SH.g_var (by with_unfolding_all rfl) ?_ | refine SH.g_c ?_ | refine SH.g_op ?_ | refine SH.g_un ?_ | refine SH.g_I0 ?_ | refine SH.g_U ?_
  | refine SH.g_eqI ?_ | refine SH.g_neI ?_ | refine SH.g_eqS ?_ | refine SH.g_neS ?_
  | refine SH.g_test ?_ | refine SH.g_B ?_ | refine SH.g_isB ?_ | refine SH.g_and ?_ | refine SH.g_or ?_ | refine SH.g_not ?_ | refine SH.g_andV ?_ | refine SH.g_orV ?_ | refine SH.g_notV ?_ | refine SH.g_ifE ?_ | refine SH.g_chain ?_
  | refine SH.g_nil ?_ | refine SH.g_cons ?_ | refine SH.g_tup ?_ | refine SH.g_lst ?_ | refine SH.g_call ?_ | refine SH.g_fld ?_ | refine SH.g_meth ?_ | refine SH.g_make ?_ | refine SH.g_cb ?_ | refine SH.g_bm ?_
  | refine SH.g_seq ?_ | refine SH.g_asg ?_ | refine SH.g_name ?_ | refine SH.g_drop ?_ | refine SH.g_ret ?_ | refine SH.g_retN ?_ | refine SH.g_next ?_ | refine SH.g_brk ?_ | refine SH.g_cnt ?_ | refine SH.g_ifs ?_ | refine SH.g_par ?_ | refine SH.g_par2 ?_ | refine SH.g_fldS ?_ | refine SH.g_raise ?_ | refine SH.g_rs ?_
  | refine SH.g_sub ?_ | refine SH.g_yes ?_ | refine SH.g_sl ?_ | refine SH.g_noPart ?_ | refine SH.g_part ?_ | refine SH.g_intO ?_ | refine SH.g_dget ?_ | refine SH.g_dput ?_ | refine SH.g_forR ?_ | refine SH.g_forL ?_ | refine SH.g_forT ?_ | refine SH.g_lcR ?_ | refine SH.g_lcL ?_ | refine SH.g_lcT ?_ | refine SH.g_gcons ?_ | refine SH.g_gnil ?_
  | refine SH.br_t ?_ | refine SH.br_f ?_
  | refine SH.g_int ?_ | refine SH.g_abs ?_ | refine SH.g_max2 ?_ | refine SH.g_min2 ?_)
local macro_rules | `(tactic| walk_at "g2") => `(tactic| first
  | walk_at "g1"
  | ((with_reducible refine' SH.g_isiInt ?ga ?gz); (case ga => walk_at "kd"))
  | ((with_reducible refine' SH.g_isiBool ?ga ?gz); (case ga => walk_at "kd"))
  | ((with_reducible refine' SH.g_isiStr ?ga ?gz); (case ga => walk_at "kd"))
  | ((with_reducible refine' SH.g_isiTup ?ga ?gz); (case ga => walk_at "kd"))
  | ((with_reducible refine' SH.g_ixT ?ga ?gb ?gz); (case ga => walk_at "sq"); (case gb => rfl))
  | ((with_reducible refine' SH.g_ixL ?ga ?gb ?gz); (case ga => walk_at "sq"); (case gb => first | rfl | (apply SH.atI_refs; assumption)))
  | ((with_reducible refine SH.br_F ?_ ?_); (· decide +kernel)) | ((with_reducible refine SH.br_T ?_ ?_); (· decide +kernel)) | ((with_reducible refine SH.br_NF ?_ ?_); (· decide +kernel)) | ((with_reducible refine SH.br_NT ?_ ?_); (· decide +kernel))
  | ((with_reducible refine' SH.g_gtup ?ga ?gb ?gz); (case ga => walk_at "sq"); (case gb => rfl))
  | ((with_reducible refine' SH.g_lenT ?ga ?gz); (case ga => walk_at "sq"))
  | ((with_reducible refine' SH.g_lenL ?ga ?gz); (case ga => walk_at "sq"))
  | ((with_reducible refine SH.g_mkT (SH.sz rfl) ?_); intro _ _)
  | ((with_reducible refine SH.g_mkL (SH.sz rfl) ?_); intro _ _)
  | ((with_reducible refine SH.g_dnew ?_); intro _ _)
  | ((with_reducible refine' SH.g_tupL ?ga ?gz); (case ga => walk_at "sq"); intro _ _)
  | ((with_reducible refine' SH.g_lstL ?ga ?gz); (case ga => walk_at "sq"); intro _ _)
  | ((with_reducible refine' SH.g_lstT ?ga ?gz); (case ga => walk_at "sq"); intro _ _)
  | ((with_reducible refine' SH.g_dgR ?ga ?gb ?gz); (case ga => walk_at "hp"); (case gb => walk_at "dv"))
  | ((with_reducible refine' SH.g_fldR ?ga ?gb ?gc ?gd ?gz); (case ga => walk_at "hp"); (case gb => walk_at "cl"); (case gc => walk_at "na"); (case gd => walk_at "fv"))
  | ((with_reducible refine' SH.g_insR ?ga ?gb ?gz); (case ga => walk_at "hp"); (case gb => walk_at "fn"))
  | ((with_reducible refine' SH.g_setL ?ga ?gb ?gz); (case ga => walk_at "hp"); (case gb => rfl))
  | ((with_reducible refine SH.g_I ?_ ?_); (· walk_at "ci"))
  | ((with_reducible refine' SH.g_slL ?ga ?gz); (case ga => walk_at "sq"); intro _ _)
  | ((with_reducible refine' SH.g_cat ?ga ?gb ?gc ?gz); (case ga => walk_at "hp"); (case gb => walk_at "hp"); (case gc => walk_at "ls"); intro _ _))
/-- the side conditions of numbers: a divisor, a factor -/
local macro_rules | `(tactic| walk_at "ci") => `(tactic| first
  | (show _ ≠ _; omega) | (show _ < _; omega) | (constructor <;> omega) | (refine Or.inr ⟨?_, ?_⟩ <;> (show _ < _; omega)) | (refine Or.inl ⟨?_, ?_⟩ <;> (show _ < _; omega)) | (refine ⟨?_, ?_, ?_⟩ <;> decide))
local macro_rules | `(tactic| walk_at "ls") => `(tactic| first | (show _ ≤ _; exact Nat.le_trans (by assumption) (by decide)) | (show _ ≤ _; exact Nat.le_trans (by simp; omega) (by decide : 1000 ≤ sizeLine)))
local macro_rules | `(tactic| walk_at "dv") => `(tactic| rfl)
local macro_rules | `(tactic| walk_at "fv") => `(tactic| rfl)
local macro_rules | `(tactic| walk_at "fn") => `(tactic| rfl)
local macro_rules | `(tactic| walk_at "cl") => `(tactic| assumption)
local macro_rules | `(tactic| walk_at "na") => `(tactic| assumption)
local macro_rules | `(tactic| walk_at "go") => `(tactic| repeat walk_at "g2")
/-- a way is split -/
local macro_rules | `(tactic| walk_at "br") => `(tactic| with_reducible first
  | refine SH.br_d (fun _ => ?_) (fun _ => ?_) | refine SH.br_nd (fun _ => ?_) (fun _ => ?_) | refine SH.br_b (fun _ => ?_) (fun _ => ?_))
/-- all ways -/
local macro_rules | `(tactic| walk_at "all") => `(tactic| repeat' first | walk_at "g2" | (walk_at "br" <;> try (walk_at "no")))
/-- a truth value is the other -/
local macro_rules | `(tactic| walk_at "bq") => `(tactic| first | rfl | (simp_all; done) | (simp_all; omega) | (simp only [decide_eq_true_eq, decide_eq_false_iff_not, Bool.and_eq_true, Bool.or_eq_true] at *; omega))
/-- what was tracked is as it was -/
local macro_rules | `(tactic| walk_at "of") => `(tactic| first
  | assumption
  | exact SH.Off.refl _ _
  | (refine' SH.Off.new2 ?gx (by assumption); (case gx => walk_at "of"))
  | (refine' SH.Off.mut ?gx (by assumption); (case gx => walk_at "of"))
  | (refine' SH.Off.trans' ?gx (by assumption) ?gy; (case gy => (intro _ h; (first | exact h | (simp at h; done) | (simp at h ⊢; simp [h]; done)))); (case gx => walk_at "of")))
namespace SH
open PySem PySem.Spec PyProof.Rows L2
def top (i : Nat) : Stmt := PySem.Challenge.pw_surehaul_k07_whole_texts.main.body.getD i (.Pass ⟨0, 0, 0, 0⟩)
abbrev s_is_integer : Stmt := top 5
theorem sc_is_integer : FnScope ["value"] ["value"] (defScope s_is_integer) := ⟨rfl, rfl, rfl, by decide +kernel, rfl, by decide +kernel, by decide +kernel⟩
abbrev s_is_in : Stmt := top 6
theorem sc_is_in : FnScope ["value", "low", "high"] ["value", "low", "high"] (defScope s_is_in) := ⟨rfl, rfl, rfl, by decide +kernel, rfl, by decide +kernel, by decide +kernel⟩
abbrev s_is_tuple_of : Stmt := top 7
theorem sc_is_tuple_of : FnScope ["value", "many"] ["value", "many"] (defScope s_is_tuple_of) := ⟨rfl, rfl, rfl, by decide +kernel, rfl, by decide +kernel, by decide +kernel⟩
abbrev s_demand : Stmt := top 8
theorem sc_demand : FnScope ["is_good", "name"] ["is_good", "name"] (defScope s_demand) := ⟨rfl, rfl, rfl, by decide +kernel, rfl, by decide +kernel, by decide +kernel⟩
abbrev s_divisor : Stmt := top 9
theorem sc_divisor : FnScope ["one", "other"] ["one", "other"] (defScope s_divisor) := ⟨rfl, rfl, rfl, by decide +kernel, rfl, by decide +kernel, by decide +kernel⟩
abbrev s_is_fraction : Stmt := top 10
theorem sc_is_fraction : FnScope ["value"] ["value"] (defScope s_is_fraction) := ⟨rfl, rfl, rfl, by decide +kernel, rfl, by decide +kernel, by decide +kernel⟩
abbrev s_is_season_step : Stmt := top 16
theorem sc_is_season_step : FnScope ["step", "boats"] ["step", "boats"] (defScope s_is_season_step) := ⟨rfl, rfl, rfl, by decide +kernel, rfl, by decide +kernel, by decide +kernel⟩
abbrev s_integer_of : Stmt := top 21
theorem sc_integer_of : FnScope ["text", "most", "figures", "sign"] ["text", "most"] (defScope s_integer_of) := ⟨rfl, rfl, rfl, by decide +kernel, rfl, by decide +kernel, by decide +kernel⟩
abbrev s_lines_of : Stmt := top 22
theorem sc_lines_of : FnScope ["text"] ["text"] (defScope s_lines_of) := ⟨rfl, rfl, rfl, by decide +kernel, rfl, by decide +kernel, by decide +kernel⟩
abbrev s_are_season_steps : Stmt := top 23
theorem sc_are_season_steps : FnScope ["value", "step"] ["value"] (defScope s_are_season_steps) := ⟨rfl, rfl, rfl, by decide +kernel, rfl, by decide +kernel, by decide +kernel⟩
abbrev s_write_course : Stmt := top 24
theorem sc_write_course : FnScope ["steps", "step", "part"] ["steps"] (defScope s_write_course) := ⟨rfl, rfl, rfl, by decide +kernel, rfl, by decide +kernel, by decide +kernel⟩
abbrev s_read_course : Stmt := top 25
theorem sc_read_course : FnScope ["text", "found", "at", "line", "words", "step", "word"] ["text"] (defScope s_read_course) := ⟨rfl, rfl, rfl, by decide +kernel, rfl, by decide +kernel, by decide +kernel⟩
abbrev s_write_fraction : Stmt := top 26
theorem sc_write_fraction : FnScope ["fraction", "part", "whole"] ["fraction"] (defScope s_write_fraction) := ⟨rfl, rfl, rfl, by decide +kernel, rfl, by decide +kernel, by decide +kernel⟩
abbrev s_read_fraction : Stmt := top 27
theorem sc_read_fraction : FnScope ["text", "lines", "part", "sign", "whole", "found"] ["text"] (defScope s_read_fraction) := ⟨rfl, rfl, rfl, by decide +kernel, rfl, by decide +kernel, by decide +kernel⟩
abbrev s_law_dice : Stmt := top 29
theorem sc_law_dice : FnScope ["script", "spot", "own", "mixed", "cell"] ["script", "spot"] (defScope s_law_dice) := ⟨rfl, rfl, rfl, by decide +kernel, rfl, by decide +kernel, by decide +kernel⟩
abbrev s_law_roll : Stmt := top 30
theorem sc_law_roll : FnScope ["dice", "total", "found"] ["dice", "total"] (defScope s_law_roll) := ⟨rfl, rfl, rfl, by decide +kernel, rfl, by decide +kernel, by decide +kernel⟩
abbrev s_law_pick : Stmt := top 31
theorem sc_law_pick : FnScope ["dice", "things"] ["dice", "things"] (defScope s_law_pick) := ⟨rfl, rfl, rfl, by decide +kernel, rfl, by decide +kernel, by decide +kernel⟩
abbrev s_law_refused : Stmt := top 32
theorem sc_law_refused : FnScope ["call", "e"] ["call"] (defScope s_law_refused) := ⟨rfl, rfl, rfl, by decide +kernel, rfl, by decide +kernel, by decide +kernel⟩
abbrev s_law_is_frac : Stmt := top 33
theorem sc_law_is_frac : FnScope ["value", "one", "two"] ["value"] (defScope s_law_is_frac) := ⟨rfl, rfl, rfl, by decide +kernel, rfl, by decide +kernel, by decide +kernel⟩
abbrev s_law_met : Stmt := top 34
theorem sc_law_met : FnScope ["call", "e"] ["call"] (defScope s_law_met) := ⟨rfl, rfl, rfl, by decide +kernel, rfl, by decide +kernel, by decide +kernel⟩
abbrev s_law_number : Stmt := top 35
theorem sc_law_number : FnScope ["word", "most", "sign"] ["word", "most"] (defScope s_law_number) := ⟨rfl, rfl, rfl, by decide +kernel, rfl, by decide +kernel, by decide +kernel⟩
abbrev s_law_course_due : Stmt := top 36
theorem sc_law_course_due : FnScope ["text", "found", "at", "words", "bounds", "parts", "word", "one"] ["text"] (defScope s_law_course_due) := ⟨rfl, rfl, rfl, by decide +kernel, rfl, by decide +kernel, by decide +kernel⟩
abbrev s_law_fraction_due : Stmt := top 37
theorem sc_law_fraction_due : FnScope ["text", "sign", "words", "parts", "found", "word"] ["text"] (defScope s_law_fraction_due) := ⟨rfl, rfl, rfl, by decide +kernel, rfl, by decide +kernel, by decide +kernel⟩
abbrev s_law_bent : Stmt := top 38
theorem sc_law_bent : FnScope ["dice", "text", "lines", "at", "line", "odd"] ["dice", "text"] (defScope s_law_bent) := ⟨rfl, rfl, rfl, by decide +kernel, rfl, by decide +kernel, by decide +kernel⟩
abbrev s_law_fraction : Stmt := top 39
theorem sc_law_fraction : FnScope ["dice", "part", "whole", "one", "two"] ["dice"] (defScope s_law_fraction) := ⟨rfl, rfl, rfl, by decide +kernel, rfl, by decide +kernel, by decide +kernel⟩
abbrev s_law_right : Stmt := top 40
theorem sc_law_right : FnScope ["dice", "kinds", "turn", "steps", "fraction", "one", "two", "told", "bad", "odd", "other", "some", "step", "part"] ["dice"] (defScope s_law_right) := ⟨rfl, rfl, rfl, by decide +kernel, rfl, by decide +kernel, by decide +kernel⟩
abbrev s_law : Stmt := top 41
theorem sc_law : FnScope ["script", "spot"] ["script"] (defScope s_law) := ⟨rfl, rfl, rfl, by decide +kernel, rfl, by decide +kernel, by decide +kernel⟩
/-- what the top has written -/
structure Txt (P : Program) (w : World) (K : PySem.W.Frag) (mg : Str → Option Value) : Prop where
  blt : Blt mg
  c_MOST_BOATS : Ci mg "MOST_BOATS" 5
  c_MOST_SHARE : Ci mg "MOST_SHARE" 500
  c_MOST_LANDING : Ci mg "MOST_LANDING" 20
  c_MOST_STEPS : Ci mg "MOST_STEPS" 5000
  c_MOST_SIGNS : Ci mg "MOST_SIGNS" 200000
  c_MOST_FIGURES : Ci mg "MOST_FIGURES" 9
  c_LONGEST : Ci mg "LONGEST" 18
  d_is_integer : TopD K mg "is_integer" s_is_integer
  d_is_in : TopD K mg "is_in" s_is_in
  d_is_tuple_of : TopD K mg "is_tuple_of" s_is_tuple_of
  d_demand : TopD K mg "demand" s_demand
  d_divisor : TopD K mg "divisor" s_divisor
  d_is_fraction : TopD K mg "is_fraction" s_is_fraction
  d_is_season_step : TopD K mg "is_season_step" s_is_season_step
  d_integer_of : TopD K mg "integer_of" s_integer_of
  d_lines_of : TopD K mg "lines_of" s_lines_of
  d_are_season_steps : TopD K mg "are_season_steps" s_are_season_steps
  d_write_course : TopD K mg "write_course" s_write_course
  d_read_course : TopD K mg "read_course" s_read_course
  d_write_fraction : TopD K mg "write_fraction" s_write_fraction
  d_read_fraction : TopD K mg "read_fraction" s_read_fraction
  d_law_dice : TopD K mg "_law_dice" s_law_dice
  d_law_roll : TopD K mg "_law_roll" s_law_roll
  d_law_pick : TopD K mg "_law_pick" s_law_pick
  d_law_refused : TopD K mg "_law_refused" s_law_refused
  d_law_is_frac : TopD K mg "_law_is_frac" s_law_is_frac
  d_law_met : TopD K mg "_law_met" s_law_met
  d_law_number : TopD K mg "_law_number" s_law_number
  d_law_course_due : TopD K mg "_law_course_due" s_law_course_due
  d_law_fraction_due : TopD K mg "_law_fraction_due" s_law_fraction_due
  d_law_bent : TopD K mg "_law_bent" s_law_bent
  d_law_fraction : TopD K mg "_law_fraction" s_law_fraction
  d_law_right : TopD K mg "_law_right" s_law_right
  d_law : TopD K mg "law" s_law
  g_HaulError : mg "HaulError" = some (.ref (He.ga K "HaulError"))
  g_BadArgument : mg "BadArgument" = some (.ref (He.ga K "BadArgument"))
  x_BadArgument : XsOk P w K mg "BadArgument" "name" (He.ga K "BadArgument")
  xc_BadArgument : XcOk K (He.ga K "BadArgument") "name"
  xr_BadArgument_HaulError : XrOk K (He.ga K "BadArgument") (He.ga K "HaulError") true
  xr_BadArgument_BadArgument : XrOk K (He.ga K "BadArgument") (He.ga K "BadArgument") true
  xr_BadArgument_BadText : XrOk K (He.ga K "BadArgument") (He.ga K "BadText") false
  g_BadText : mg "BadText" = some (.ref (He.ga K "BadText"))
  x_BadText : XsOk P w K mg "BadText" "line" (He.ga K "BadText")
  xc_BadText : XcOk K (He.ga K "BadText") "line"
  xr_BadText_HaulError : XrOk K (He.ga K "BadText") (He.ga K "HaulError") true
  xr_BadText_BadArgument : XrOk K (He.ga K "BadText") (He.ga K "BadArgument") false
  xr_BadText_BadText : XrOk K (He.ga K "BadText") (He.ga K "BadText") true
end SH
end

section
/-! #### the walk's words -/
local macro_rules | `(tactic| walk_at "ne0") => `(tactic| first
  | assumption
  | (refine Ne.symm ?_; assumption))
local macro_rules | `(tactic| walk_at "ne") => `(tactic| first
  | assumption
  | (refine Ne.symm ?_; assumption)
  | (refine' L2.ne_of_none ?gx (by assumption); (case gx => walk_at "hp"))
  | (refine' Ne.symm (L2.ne_of_none ?gx (by assumption)); (case gx => walk_at "hp")))
local macro_rules | `(tactic| walk_at "hp") => `(tactic| first
  | assumption
  | exact L2.upd_same
  | (refine' SH.upd_new ?gh (by assumption); (case gh => walk_at "hp"))
  | (refine' (L2.upd_ne ?gn).trans ?gh; (case gn => walk_at "ne0"); (case gh => walk_at "hp"))
  | (refine' SH.Off.at (by assumption) ?gn ?gh; (case gn => walk_at "nin"); (case gh => walk_at "hp")))
local macro_rules | `(tactic| walk_at "nin") => `(tactic| first
  | exact SH.nin_nil
  | (refine SH.nin_cons ?_ ?_; (· walk_at "ne0"); (· walk_at "nin")))
local macro_rules | `(tactic| walk_at "sq") => `(tactic| first
  | assumption
  | (apply L2.SqL.of; (· walk_at "hp"))
  | (apply L2.SqT.of; (· walk_at "hp"))
  | (refine' SH.seqT_new ?gx (by assumption); (case gx => walk_at "sq"))
  | (refine' SH.seqL_new ?gx (by assumption); (case gx => walk_at "sq"))
  | (refine' SH.Off.seqT (by assumption) ?gx; (case gx => walk_at "sq"))
  | (refine' SH.Off.seqL (by assumption) ?gy ?gx; (case gx => walk_at "sq"); (case gy => walk_at "nin")))
local macro_rules | `(tactic| walk_at "kd") => `(tactic| first
  | assumption | exact SH.KdV.int _ | exact SH.KdV.bl _ | exact SH.KdV.str _ | exact SH.KdV.non
  | (apply SH.KdV.tup; (· walk_at "sq")) | (apply SH.KdV.lst; (· walk_at "sq")))
/-- a way that cannot be -/
local macro_rules | `(tactic| walk_at "no") => `(tactic| (exfalso; first | assumption | omega | contradiction | (simp_all; done)))
/-- one step -/
local macro_rules | `(tactic| walk_at "g1") => `(tactic| with_reducible first
  | refine SH.g_var (by with_unfolding_all rfl) ?_ | refine SH.g_c ?_ | refine SH.g_op ?_ | refine SH.g_un ?_ | refine SH.g_I0 ?_ | refine SH.g_U ?_
  | refine SH.g_eqI ?_ | refine SH.g_neI ?_ | refine SH.g_eqS ?_ | refine SH.g_neS ?_
  | refine SH.g_test ?_ | refine SH.g_B ?_ | refine SH.g_isB ?_ | refine SH.g_and ?_ | refine SH.g_or ?_ | refine SH.g_not ?_ | refine SH.g_andV ?_ | refine SH.g_orV ?_ | refine SH.g_notV ?_ | refine SH.g_ifE ?_ | refine SH.g_chain ?_
  | refine SH.g_nil ?_ | refine SH.g_cons ?_ | refine SH.g_tup ?_ | refine SH.g_lst ?_ | refine SH.g_call ?_ | refine SH.g_fld ?_ | refine SH.g_meth ?_ | refine SH.g_make ?_ | refine SH.g_cb ?_ | refine SH.g_bm ?_
  | refine SH.g_seq ?_ | refine SH.g_asg ?_ | refine SH.g_name ?_ | refine SH.g_drop ?_ | refine SH.g_ret ?_ | refine SH.g_retN ?_ | refine SH.g_next ?_ | refine SH.g_brk ?_ | refine SH.g_cnt ?_ | refine SH.g_ifs ?_ | refine SH.g_par ?_ | refine SH.g_par2 ?_ | refine SH.g_fldS ?_ | refine SH.g_raise ?_ | refine SH.g_rs ?_
  | refine SH.g_sub ?_ | refine SH.g_yes ?_ | refine SH.g_sl ?_ | refine SH.g_noPart ?_ | refine SH.g_part ?_ | refine SH.g_intO ?_ | refine SH.g_dget ?_ | refine SH.g_dput ?_ | refine SH.g_forR ?_ | refine SH.g_forL ?_ | refine SH.g_forT ?_ | refine SH.g_lcR ?_ | refine SH.g_lcL ?_ | refine SH.g_lcT ?_ | refine SH.g_gcons ?_ | refine SH.g_gnil ?_
  | refine SH.br_t ?_ | refine SH.br_f ?_
  | refine SH.g_int ?_ | refine SH.g_abs ?_ | refine SH.g_max2 ?_ | refine SH.g_min2 ?_)
local macro_rules | `(tactic| walk_at "g2") => `(tactic| first
  | walk_at "g1"
  | ((with_reducible refine' SH.g_isiInt ?ga ?gz); (case ga => walk_at "kd"))
  | ((with_reducible refine' SH.g_isiBool ?ga ?gz); (case ga => walk_at "kd"))
  | ((with_reducible refine' SH.g_isiStr ?ga ?gz); (case ga => walk_at "kd"))
  | ((with_reducible refine' SH.g_isiTup ?ga ?gz); (case ga => walk_at "kd"))
  | ((with_reducible refine' SH.g_ixT ?ga ?gb ?gz); (case ga => walk_at "sq"); (case gb => rfl))
  | ((with_reducible refine' SH.g_ixL ?ga ?gb ?gz); (case ga => walk_at "sq"); (case gb => first | rfl | (apply SH.atI_refs; assumption)))
  | ((with_reducible refine SH.br_F ?_ ?_); (· decide +kernel)) | ((with_reducible refine SH.br_T ?_ ?_); (· decide +kernel)) | ((with_reducible refine SH.br_NF ?_ ?_); (· decide +kernel)) | ((with_reducible refine SH.br_NT ?_ ?_); (· decide +kernel))
  | ((with_reducible refine' SH.g_gtup ?ga ?gb ?gz); (case ga => walk_at "sq"); (case gb => rfl))
  | ((with_reducible refine' SH.g_lenT ?ga ?gz); (case ga => walk_at "sq"))
  | ((with_reducible refine' SH.g_lenL ?ga ?gz); (case ga => walk_at "sq"))
  | ((with_reducible refine SH.g_mkT (SH.sz rfl) ?_); intro _ _)
  | ((with_reducible refine SH.g_mkL (SH.sz rfl) ?_); intro _ _)
  | ((with_reducible refine SH.g_dnew ?_); intro _ _)
  | ((with_reducible refine' SH.g_tupL ?ga ?gz); (case ga => walk_at "sq"); intro _ _)
  | ((with_reducible refine' SH.g_lstL ?ga ?gz); (case ga => walk_at "sq"); intro _ _)
  | ((with_reducible refine' SH.g_lstT ?ga ?gz); (case ga => walk_at "sq"); intro _ _)
  | ((with_reducible refine' SH.g_dgR ?ga ?gb ?gz); (case ga => walk_at "hp"); (case gb => walk_at "dv"))
  | ((with_reducible refine' SH.g_fldR ?ga ?gb ?gc ?gd ?gz); (case ga => walk_at "hp"); (case gb => walk_at "cl"); (case gc => walk_at "na"); (case gd => walk_at "fv"))
  | ((with_reducible refine' SH.g_insR ?ga ?gb ?gz); (case ga => walk_at "hp"); (case gb => walk_at "fn"))
  | ((with_reducible refine' SH.g_setL ?ga ?gb ?gz); (case ga => walk_at "hp"); (case gb => rfl))
  | ((with_reducible refine SH.g_I ?_ ?_); (· walk_at "ci"))
  | ((with_reducible refine' SH.g_slL ?ga ?gz); (case ga => walk_at "sq"); intro _ _)
  | ((with_reducible refine' SH.g_cat ?ga ?gb ?gc ?gz); (case ga => walk_at "hp"); (case gb => walk_at "hp"); (case gc => walk_at "ls"); intro _ _))
/-- the side conditions of numbers: a divisor, a factor -/
local macro_rules | `(tactic| walk_at "ci") => `(tactic| first
  | (show _ ≠ _; omega) | (show _ < _; omega) | (constructor <;> omega) | (refine Or.inr ⟨?_, ?_⟩ <;> (show _ < _; omega)) | (refine Or.inl ⟨?_, ?_⟩ <;> (show _ < _; omega)) | (refine ⟨?_, ?_, ?_⟩ <;> decide))
local macro_rules | `(tactic| walk_at "ls") => `(tactic| first | (show _ ≤ _; exact Nat.le_trans (by assumption) (by decide)) | (show _ ≤ _; exact Nat.le_trans (by simp; omega) (by decide : 1000 ≤ sizeLine)))
local macro_rules | `(tactic| walk_at "dv") => `(tactic| rfl)
local macro_rules | `(tactic| walk_at "fv") => `(tactic| rfl)
local macro_rules | `(tactic| walk_at "fn") => `(tactic| rfl)
local macro_rules | `(tactic| walk_at "cl") => `(tactic| assumption)
local macro_rules | `(tactic| walk_at "na") => `(tactic| assumption)
local macro_rules | `(tactic| walk_at "go") => `(tactic| repeat walk_at "g2")
/-- a way is split -/
local macro_rules | `(tactic| walk_at "br") => `(tactic| with_reducible first
  | refine SH.br_d (fun _ => ?_) (fun _ => ?_) | refine SH.br_nd (fun _ => ?_) (fun _ => ?_) | refine SH.br_b (fun _ => ?_) (fun _ => ?_))
/-- all ways -/
local macro_rules | `(tactic| walk_at "all") => `(tactic| repeat' first | walk_at "g2" | (walk_at "br" <;> try (walk_at "no")))
/-- a truth value is the other -/
local macro_rules | `(tactic| walk_at "bq") => `(tactic| first | rfl | (simp_all; done) | (simp_all; omega) | (simp only [decide_eq_true_eq, decide_eq_false_iff_not, Bool.and_eq_true, Bool.or_eq_true] at *; omega))
/-- what was tracked is as it was -/
local macro_rules | `(tactic| walk_at "of") => `(tactic| first
  | assumption
  | exact SH.Off.refl _ _
  | (refine' SH.Off.new2 ?gx (by assumption); (case gx => walk_at "of"))
  | (refine' SH.Off.mut ?gx (by assumption); (case gx => walk_at "of"))
  | (refine' SH.Off.trans' ?gx (by assumption) ?gy; (case gy => (intro _ h; (first | exact h | (simp at h; done) | (simp at h ⊢; simp [h]; done)))); (case gx => walk_at "of")))
namespace SH
open PySem PySem.Spec PyProof.Rows L2
abbrev thePr : Program := PySem.Challenge.pw_surehaul_k07_whole_texts
abbrev s_x_BadArgument : Stmt := inClass (top 2) 0
abbrev s_x_BadText : Stmt := inClass (top 3) 0
def fa : List He.Fa := [.free "len", .free "range", .free "isinstance", .free "abs", .free "int", .free "bool", .free "str", .free "tuple", .free "dict", .free "list", .free "min", .free "max", .free "any", .free "all", .free "sum", .free "sorted", .free "repr", .free "zip", .free "enumerate", .int "MOST_BOATS" 5, .int "MOST_SHARE" 500, .int "MOST_LANDING" 20, .int "MOST_STEPS" 5000, .int "MOST_SIGNS" 200000, .int "MOST_FIGURES" 9, .int "LONGEST" 18, .glo "is_integer", .glo "is_in", .glo "is_tuple_of", .glo "demand", .glo "divisor", .glo "is_fraction", .glo "is_season_step", .glo "integer_of", .glo "lines_of", .glo "are_season_steps", .glo "write_course", .glo "read_course", .glo "write_fraction", .glo "read_fraction", .glo "_law_dice", .glo "_law_roll", .glo "_law_pick", .glo "_law_refused", .glo "_law_is_frac", .glo "_law_met", .glo "_law_number", .glo "_law_course_due", .glo "_law_fraction_due", .glo "_law_bent", .glo "_law_fraction", .glo "_law_right", .glo "law", .glo "HaulError", .glo "BadArgument", .glo "BadText"]
def fn : List He.DefD := [⟨("is_integer", none), "is_integer", "is_integer", defArgs s_is_integer, defBody s_is_integer, defScope s_is_integer, [], []⟩,
  ⟨("is_in", none), "is_in", "is_in", defArgs s_is_in, defBody s_is_in, defScope s_is_in, [], []⟩,
  ⟨("is_tuple_of", none), "is_tuple_of", "is_tuple_of", defArgs s_is_tuple_of, defBody s_is_tuple_of, defScope s_is_tuple_of, [], []⟩,
  ⟨("demand", none), "demand", "demand", defArgs s_demand, defBody s_demand, defScope s_demand, [], []⟩,
  ⟨("divisor", none), "divisor", "divisor", defArgs s_divisor, defBody s_divisor, defScope s_divisor, [], []⟩,
  ⟨("is_fraction", none), "is_fraction", "is_fraction", defArgs s_is_fraction, defBody s_is_fraction, defScope s_is_fraction, [], []⟩,
  ⟨("is_season_step", none), "is_season_step", "is_season_step", defArgs s_is_season_step, defBody s_is_season_step, defScope s_is_season_step, [], []⟩,
  ⟨("integer_of", none), "integer_of", "integer_of", defArgs s_integer_of, defBody s_integer_of, defScope s_integer_of, [], []⟩,
  ⟨("lines_of", none), "lines_of", "lines_of", defArgs s_lines_of, defBody s_lines_of, defScope s_lines_of, [], []⟩,
  ⟨("are_season_steps", none), "are_season_steps", "are_season_steps", defArgs s_are_season_steps, defBody s_are_season_steps, defScope s_are_season_steps, [], []⟩,
  ⟨("write_course", none), "write_course", "write_course", defArgs s_write_course, defBody s_write_course, defScope s_write_course, [], []⟩,
  ⟨("read_course", none), "read_course", "read_course", defArgs s_read_course, defBody s_read_course, defScope s_read_course, [], []⟩,
  ⟨("write_fraction", none), "write_fraction", "write_fraction", defArgs s_write_fraction, defBody s_write_fraction, defScope s_write_fraction, [], []⟩,
  ⟨("read_fraction", none), "read_fraction", "read_fraction", defArgs s_read_fraction, defBody s_read_fraction, defScope s_read_fraction, [], []⟩,
  ⟨("_law_dice", none), "_law_dice", "_law_dice", defArgs s_law_dice, defBody s_law_dice, defScope s_law_dice, [], []⟩,
  ⟨("_law_roll", none), "_law_roll", "_law_roll", defArgs s_law_roll, defBody s_law_roll, defScope s_law_roll, [], []⟩,
  ⟨("_law_pick", none), "_law_pick", "_law_pick", defArgs s_law_pick, defBody s_law_pick, defScope s_law_pick, [], []⟩,
  ⟨("_law_refused", none), "_law_refused", "_law_refused", defArgs s_law_refused, defBody s_law_refused, defScope s_law_refused, [], []⟩,
  ⟨("_law_is_frac", none), "_law_is_frac", "_law_is_frac", defArgs s_law_is_frac, defBody s_law_is_frac, defScope s_law_is_frac, [], []⟩,
  ⟨("_law_met", none), "_law_met", "_law_met", defArgs s_law_met, defBody s_law_met, defScope s_law_met, [], []⟩,
  ⟨("_law_number", none), "_law_number", "_law_number", defArgs s_law_number, defBody s_law_number, defScope s_law_number, [], []⟩,
  ⟨("_law_course_due", none), "_law_course_due", "_law_course_due", defArgs s_law_course_due, defBody s_law_course_due, defScope s_law_course_due, [], []⟩,
  ⟨("_law_fraction_due", none), "_law_fraction_due", "_law_fraction_due", defArgs s_law_fraction_due, defBody s_law_fraction_due, defScope s_law_fraction_due, [], []⟩,
  ⟨("_law_bent", none), "_law_bent", "_law_bent", defArgs s_law_bent, defBody s_law_bent, defScope s_law_bent, [], []⟩,
  ⟨("_law_fraction", none), "_law_fraction", "_law_fraction", defArgs s_law_fraction, defBody s_law_fraction, defScope s_law_fraction, [], []⟩,
  ⟨("_law_right", none), "_law_right", "_law_right", defArgs s_law_right, defBody s_law_right, defScope s_law_right, [], []⟩,
  ⟨("law", none), "law", "law", defArgs s_law, defBody s_law, defScope s_law, [], []⟩]
def xs : List Hq.XD := [⟨"BadArgument", "name", "BadArgument.__init__", defArgs s_x_BadArgument, defBody s_x_BadArgument, defScope s_x_BadArgument⟩, ⟨"BadText", "line", "BadText.__init__", defArgs s_x_BadText, defBody s_x_BadText, defScope s_x_BadText⟩]
def exs (K : PySem.W.Frag) : List Bool := [xcB K (He.ga K "BadArgument") "name", xrB K (He.ga K "BadArgument") (He.ga K "HaulError") true, xrB K (He.ga K "BadArgument") (He.ga K "BadArgument") true, xrB K (He.ga K "BadArgument") (He.ga K "BadText") false, xcB K (He.ga K "BadText") "line", xrB K (He.ga K "BadText") (He.ga K "HaulError") true, xrB K (He.ga K "BadText") (He.ga K "BadArgument") false, xrB K (He.ga K "BadText") (He.ga K "BadText") true, tabB K "_law_right", tabB K "law", tabNeB K "_law_right" "law"]
def ex (K : PySem.W.Frag) : Bool := (exs K).all id
def lawAt : Nat := 41
def loose : List PySem.Str := (["HaulError", "ValueError", "BadArgument", "BadText", "is_integer", "is_in", "is_tuple_of", "demand", "divisor", "is_fraction", "MOST_BOATS", "MOST_SHARE", "MOST_LANDING", "MOST_STEPS", "is_season_step", "MOST_SIGNS", "MOST_FIGURES", "LONGEST", "integer_of", "lines_of", "are_season_steps", "write_course", "read_course", "write_fraction", "read_fraction", "_law_dice", "_law_roll", "_law_pick", "_law_refused", "_law_is_frac"] : List PySem.Str) ++ (["_law_met", "_law_number", "_law_course_due", "_law_fraction_due", "_law_bent", "_law_fraction"] : List PySem.Str)
def at_law_right : Nat := 40
theorem tab_law_right {K : PySem.W.Frag} (c : Hq.obsQ fa fn xs ex thePr K = Hq.valQ fn xs) : ∃ c P, PySem.W.tabIn K "_law_right" = some (c, P) ∧ K.lookup P = none := tabB_ok (List.all_eq_true.mp (Hq.says_ex c) (tabB K "_law_right") (by simp [exs]))
def at_law : Nat := 41
theorem tab_law {K : PySem.W.Frag} (c : Hq.obsQ fa fn xs ex thePr K = Hq.valQ fn xs) : ∃ c P, PySem.W.tabIn K "law" = some (c, P) ∧ K.lookup P = none := tabB_ok (List.all_eq_true.mp (Hq.says_ex c) (tabB K "law") (by simp [exs]))
theorem tabne_law_right_law {K : PySem.W.Frag} {c P c2 P2 : Addr} (c0 : Hq.obsQ fa fn xs ex thePr K = Hq.valQ fn xs) (e : PySem.W.tabIn K "_law_right" = some (c, P)) (e2 : PySem.W.tabIn K "law" = some (c2, P2)) : P ≠ P2 := tabNeB_ok (List.all_eq_true.mp (Hq.says_ex c0) (tabNeB K "_law_right" "law") (by simp [exs])) e e2
theorem txt_of {w : World} {K : PySem.W.Frag} {h : Heap} {mg : Str → Option Value} (X : K.In h) (G : h.Ns mainGlobals mg) (c : Hq.obsQ fa fn xs ex thePr K = Hq.valQ fn xs) : Txt thePr w K mg := by
  have F : ∀ f, f ∈ fa → f.ok K = true := fun f hf => Hq.facts_d (Hq.says_d c) hf
  have D : ∀ (i : Nat) (d : He.DefD), fn[i]? = some d → ∃ fd, FunD K d.name d.qual d.params d.body d.scope (d.dvs K) (d.kws K) (He.fAd K d.at_) fd := fun i d hd => (Hq.says_d c).def_ i hd
  have E : ∀ b, b ∈ exs K → b = true := fun b hb => List.all_eq_true.mp (Hq.says_ex c) b hb
  exact {
    blt := { b_len := He.free_ok X G (F (.free "len") (by simp [fa])), b_range := He.free_ok X G (F (.free "range") (by simp [fa])), b_isinstance := He.free_ok X G (F (.free "isinstance") (by simp [fa])), b_abs := He.free_ok X G (F (.free "abs") (by simp [fa])), b_int := He.free_ok X G (F (.free "int") (by simp [fa])), b_bool := He.free_ok X G (F (.free "bool") (by simp [fa])), b_str := He.free_ok X G (F (.free "str") (by simp [fa])), b_tuple := He.free_ok X G (F (.free "tuple") (by simp [fa])), b_dict := He.free_ok X G (F (.free "dict") (by simp [fa])), b_list := He.free_ok X G (F (.free "list") (by simp [fa])), b_min := He.free_ok X G (F (.free "min") (by simp [fa])), b_max := He.free_ok X G (F (.free "max") (by simp [fa])), b_any := He.free_ok X G (F (.free "any") (by simp [fa])), b_all := He.free_ok X G (F (.free "all") (by simp [fa])), b_sum := He.free_ok X G (F (.free "sum") (by simp [fa])), b_sorted := He.free_ok X G (F (.free "sorted") (by simp [fa])), b_repr := He.free_ok X G (F (.free "repr") (by simp [fa])), b_zip := He.free_ok X G (F (.free "zip") (by simp [fa])), b_enumerate := He.free_ok X G (F (.free "enumerate") (by simp [fa])) },
    c_MOST_BOATS := He.int_ok X G (F (.int "MOST_BOATS" 5) (by simp [fa])),
    c_MOST_SHARE := He.int_ok X G (F (.int "MOST_SHARE" 500) (by simp [fa])),
    c_MOST_LANDING := He.int_ok X G (F (.int "MOST_LANDING" 20) (by simp [fa])),
    c_MOST_STEPS := He.int_ok X G (F (.int "MOST_STEPS" 5000) (by simp [fa])),
    c_MOST_SIGNS := He.int_ok X G (F (.int "MOST_SIGNS" 200000) (by simp [fa])),
    c_MOST_FIGURES := He.int_ok X G (F (.int "MOST_FIGURES" 9) (by simp [fa])),
    c_LONGEST := He.int_ok X G (F (.int "LONGEST" 18) (by simp [fa])),
    d_is_integer := (D 0 ⟨("is_integer", none), "is_integer", "is_integer", defArgs s_is_integer, defBody s_is_integer, defScope s_is_integer, [], []⟩ rfl).elim fun fd h => ⟨_, fd, h, He.glo_ok X G (F (.glo "is_integer") (by simp [fa]))⟩,
    d_is_in := (D 1 ⟨("is_in", none), "is_in", "is_in", defArgs s_is_in, defBody s_is_in, defScope s_is_in, [], []⟩ rfl).elim fun fd h => ⟨_, fd, h, He.glo_ok X G (F (.glo "is_in") (by simp [fa]))⟩,
    d_is_tuple_of := (D 2 ⟨("is_tuple_of", none), "is_tuple_of", "is_tuple_of", defArgs s_is_tuple_of, defBody s_is_tuple_of, defScope s_is_tuple_of, [], []⟩ rfl).elim fun fd h => ⟨_, fd, h, He.glo_ok X G (F (.glo "is_tuple_of") (by simp [fa]))⟩,
    d_demand := (D 3 ⟨("demand", none), "demand", "demand", defArgs s_demand, defBody s_demand, defScope s_demand, [], []⟩ rfl).elim fun fd h => ⟨_, fd, h, He.glo_ok X G (F (.glo "demand") (by simp [fa]))⟩,
    d_divisor := (D 4 ⟨("divisor", none), "divisor", "divisor", defArgs s_divisor, defBody s_divisor, defScope s_divisor, [], []⟩ rfl).elim fun fd h => ⟨_, fd, h, He.glo_ok X G (F (.glo "divisor") (by simp [fa]))⟩,
    d_is_fraction := (D 5 ⟨("is_fraction", none), "is_fraction", "is_fraction", defArgs s_is_fraction, defBody s_is_fraction, defScope s_is_fraction, [], []⟩ rfl).elim fun fd h => ⟨_, fd, h, He.glo_ok X G (F (.glo "is_fraction") (by simp [fa]))⟩,
    d_is_season_step := (D 6 ⟨("is_season_step", none), "is_season_step", "is_season_step", defArgs s_is_season_step, defBody s_is_season_step, defScope s_is_season_step, [], []⟩ rfl).elim fun fd h => ⟨_, fd, h, He.glo_ok X G (F (.glo "is_season_step") (by simp [fa]))⟩,
    d_integer_of := (D 7 ⟨("integer_of", none), "integer_of", "integer_of", defArgs s_integer_of, defBody s_integer_of, defScope s_integer_of, [], []⟩ rfl).elim fun fd h => ⟨_, fd, h, He.glo_ok X G (F (.glo "integer_of") (by simp [fa]))⟩,
    d_lines_of := (D 8 ⟨("lines_of", none), "lines_of", "lines_of", defArgs s_lines_of, defBody s_lines_of, defScope s_lines_of, [], []⟩ rfl).elim fun fd h => ⟨_, fd, h, He.glo_ok X G (F (.glo "lines_of") (by simp [fa]))⟩,
    d_are_season_steps := (D 9 ⟨("are_season_steps", none), "are_season_steps", "are_season_steps", defArgs s_are_season_steps, defBody s_are_season_steps, defScope s_are_season_steps, [], []⟩ rfl).elim fun fd h => ⟨_, fd, h, He.glo_ok X G (F (.glo "are_season_steps") (by simp [fa]))⟩,
    d_write_course := (D 10 ⟨("write_course", none), "write_course", "write_course", defArgs s_write_course, defBody s_write_course, defScope s_write_course, [], []⟩ rfl).elim fun fd h => ⟨_, fd, h, He.glo_ok X G (F (.glo "write_course") (by simp [fa]))⟩,
    d_read_course := (D 11 ⟨("read_course", none), "read_course", "read_course", defArgs s_read_course, defBody s_read_course, defScope s_read_course, [], []⟩ rfl).elim fun fd h => ⟨_, fd, h, He.glo_ok X G (F (.glo "read_course") (by simp [fa]))⟩,
    d_write_fraction := (D 12 ⟨("write_fraction", none), "write_fraction", "write_fraction", defArgs s_write_fraction, defBody s_write_fraction, defScope s_write_fraction, [], []⟩ rfl).elim fun fd h => ⟨_, fd, h, He.glo_ok X G (F (.glo "write_fraction") (by simp [fa]))⟩,
    d_read_fraction := (D 13 ⟨("read_fraction", none), "read_fraction", "read_fraction", defArgs s_read_fraction, defBody s_read_fraction, defScope s_read_fraction, [], []⟩ rfl).elim fun fd h => ⟨_, fd, h, He.glo_ok X G (F (.glo "read_fraction") (by simp [fa]))⟩,
    d_law_dice := (D 14 ⟨("_law_dice", none), "_law_dice", "_law_dice", defArgs s_law_dice, defBody s_law_dice, defScope s_law_dice, [], []⟩ rfl).elim fun fd h => ⟨_, fd, h, He.glo_ok X G (F (.glo "_law_dice") (by simp [fa]))⟩,
    d_law_roll := (D 15 ⟨("_law_roll", none), "_law_roll", "_law_roll", defArgs s_law_roll, defBody s_law_roll, defScope s_law_roll, [], []⟩ rfl).elim fun fd h => ⟨_, fd, h, He.glo_ok X G (F (.glo "_law_roll") (by simp [fa]))⟩,
    d_law_pick := (D 16 ⟨("_law_pick", none), "_law_pick", "_law_pick", defArgs s_law_pick, defBody s_law_pick, defScope s_law_pick, [], []⟩ rfl).elim fun fd h => ⟨_, fd, h, He.glo_ok X G (F (.glo "_law_pick") (by simp [fa]))⟩,
    d_law_refused := (D 17 ⟨("_law_refused", none), "_law_refused", "_law_refused", defArgs s_law_refused, defBody s_law_refused, defScope s_law_refused, [], []⟩ rfl).elim fun fd h => ⟨_, fd, h, He.glo_ok X G (F (.glo "_law_refused") (by simp [fa]))⟩,
    d_law_is_frac := (D 18 ⟨("_law_is_frac", none), "_law_is_frac", "_law_is_frac", defArgs s_law_is_frac, defBody s_law_is_frac, defScope s_law_is_frac, [], []⟩ rfl).elim fun fd h => ⟨_, fd, h, He.glo_ok X G (F (.glo "_law_is_frac") (by simp [fa]))⟩,
    d_law_met := (D 19 ⟨("_law_met", none), "_law_met", "_law_met", defArgs s_law_met, defBody s_law_met, defScope s_law_met, [], []⟩ rfl).elim fun fd h => ⟨_, fd, h, He.glo_ok X G (F (.glo "_law_met") (by simp [fa]))⟩,
    d_law_number := (D 20 ⟨("_law_number", none), "_law_number", "_law_number", defArgs s_law_number, defBody s_law_number, defScope s_law_number, [], []⟩ rfl).elim fun fd h => ⟨_, fd, h, He.glo_ok X G (F (.glo "_law_number") (by simp [fa]))⟩,
    d_law_course_due := (D 21 ⟨("_law_course_due", none), "_law_course_due", "_law_course_due", defArgs s_law_course_due, defBody s_law_course_due, defScope s_law_course_due, [], []⟩ rfl).elim fun fd h => ⟨_, fd, h, He.glo_ok X G (F (.glo "_law_course_due") (by simp [fa]))⟩,
    d_law_fraction_due := (D 22 ⟨("_law_fraction_due", none), "_law_fraction_due", "_law_fraction_due", defArgs s_law_fraction_due, defBody s_law_fraction_due, defScope s_law_fraction_due, [], []⟩ rfl).elim fun fd h => ⟨_, fd, h, He.glo_ok X G (F (.glo "_law_fraction_due") (by simp [fa]))⟩,
    d_law_bent := (D 23 ⟨("_law_bent", none), "_law_bent", "_law_bent", defArgs s_law_bent, defBody s_law_bent, defScope s_law_bent, [], []⟩ rfl).elim fun fd h => ⟨_, fd, h, He.glo_ok X G (F (.glo "_law_bent") (by simp [fa]))⟩,
    d_law_fraction := (D 24 ⟨("_law_fraction", none), "_law_fraction", "_law_fraction", defArgs s_law_fraction, defBody s_law_fraction, defScope s_law_fraction, [], []⟩ rfl).elim fun fd h => ⟨_, fd, h, He.glo_ok X G (F (.glo "_law_fraction") (by simp [fa]))⟩,
    d_law_right := (D 25 ⟨("_law_right", none), "_law_right", "_law_right", defArgs s_law_right, defBody s_law_right, defScope s_law_right, [], []⟩ rfl).elim fun fd h => ⟨_, fd, h, He.glo_ok X G (F (.glo "_law_right") (by simp [fa]))⟩,
    d_law := (D 26 ⟨("law", none), "law", "law", defArgs s_law, defBody s_law, defScope s_law, [], []⟩ rfl).elim fun fd h => ⟨_, fd, h, He.glo_ok X G (F (.glo "law") (by simp [fa]))⟩,
    g_HaulError := He.glo_ok X G (F (.glo "HaulError") (by simp [fa])),
    g_BadArgument := He.glo_ok X G (F (.glo "BadArgument") (by simp [fa])),
    xc_BadArgument := xcB_ok (E _ (by simp [exs])),
    xr_BadArgument_HaulError := xrB_ok (E _ (by simp [exs])),
    xr_BadArgument_BadArgument := xrB_ok (E _ (by simp [exs])),
    xr_BadArgument_BadText := xrB_ok (E _ (by simp [exs])),
    g_BadText := He.glo_ok X G (F (.glo "BadText") (by simp [fa])),
    xc_BadText := xcB_ok (E _ (by simp [exs])),
    xr_BadText_HaulError := xrB_ok (E _ (by simp [exs])),
    xr_BadText_BadArgument := xrB_ok (E _ (by simp [exs])),
    xr_BadText_BadText := xrB_ok (E _ (by simp [exs])),
    x_BadArgument := xsok_name (Hq.txtB_ok X G nm_name (Hq.says_x c (d := ⟨"BadArgument", "name", "BadArgument.__init__", defArgs s_x_BadArgument, defBody s_x_BadArgument, defScope s_x_BadArgument⟩) (by simp [xs])).1 (Hq.says_x c (d := ⟨"BadArgument", "name", "BadArgument.__init__", defArgs s_x_BadArgument, defBody s_x_BadArgument, defScope s_x_BadArgument⟩) (by simp [xs])).2 rfl rfl rfl (by decide)),
    x_BadText := xsok_line (Hq.txtB_ok X G nm_line (Hq.says_x c (d := ⟨"BadText", "line", "BadText.__init__", defArgs s_x_BadText, defBody s_x_BadText, defScope s_x_BadText⟩) (by simp [xs])).1 (Hq.says_x c (d := ⟨"BadText", "line", "BadText.__init__", defArgs s_x_BadText, defBody s_x_BadText, defScope s_x_BadText⟩) (by simp [xs])).2 rfl rfl rfl (by decide)) }
abbrev R : PySem.W.OpenRow := PySem.W.OpenLaw.row PySem.Challenge.rw_surehaul_k07_whole_texts
abbrev hk : PySem.W.Hook := Hq.hookT 5 fa fn xs ex thePr
def ob (s : PySem.W.SharedT) : Hq.AlQ := Hq.obsQ fa fn xs ex thePr (Hq.frT 5 (HandSHeadRun.getT s))
theorem ob_eq (s : PySem.W.SharedT) : ob s = hk.obs s.abs := by
  have e : (HandSHeadRun.getT s) = s.abs.heap.get? := funext fun a => HandSHeadRun.getT_eq s a
  unfold ob
  rw [e]
  rfl
theorem run (w : World) : HandSHeadRun.RunEq R (PySem.W.view R.prog [at_law_right, lawAt]) hk ob 4000 loose w := by
  intro os
  kernel_rfl
end SH
end

section
/-! #### the walk's words -/
local macro_rules | `(tactic| walk_at "ne0") => `(tactic| first
  | assumption
  | (refine Ne.symm ?_; assumption))
local macro_rules | `(tactic| walk_at "ne") => `(tactic| first
  | assumption
  | (refine Ne.symm ?_; assumption)
  | (refine' L2.ne_of_none ?gx (by assumption); (case gx => walk_at "hp"))
  | (refine' Ne.symm (L2.ne_of_none ?gx (by assumption)); (case gx => walk_at "hp")))
local macro_rules | `(tactic| walk_at "hp") => `(tactic| first
  | assumption
  | exact L2.upd_same
  | (refine' SH.upd_new ?gh (by assumption); (case gh => walk_at "hp"))
  | (refine' (L2.upd_ne ?gn).trans ?gh; (case gn => walk_at "ne0"); (case gh => walk_at "hp"))
  | (refine' SH.Off.at (by assumption) ?gn ?gh; (case gn => walk_at "nin"); (case gh => walk_at "hp")))
local macro_rules | `(tactic| walk_at "nin") => `(tactic| first
  | exact SH.nin_nil
  | (refine SH.nin_cons ?_ ?_; (· walk_at "ne0"); (· walk_at "nin")))
local macro_rules | `(tactic| walk_at "sq") => `(tactic| first
  | assumption
  | (apply L2.SqL.of; (· walk_at "hp"))
  | (apply L2.SqT.of; (· walk_at "hp"))
  | (refine' SH.seqT_new ?gx (by assumption); (case gx => walk_at "sq"))
  | (refine' SH.seqL_new ?gx (by assumption); (case gx => walk_at "sq"))
  | (refine' SH.Off.seqT (by assumption) ?gx; (case gx => walk_at "sq"))
  | (refine' SH.Off.seqL (by assumption) ?gy ?gx; (case gx => walk_at "sq"); (case gy => walk_at "nin")))
local macro_rules | `(tactic| walk_at "kd") => `(tactic| first
  | assumption | exact SH.KdV.int _ | exact SH.KdV.bl _ | exact SH.KdV.str _ | exact SH.KdV.non
  | (apply SH.KdV.tup; (· walk_at "sq")) | (apply SH.KdV.lst; (· walk_at "sq")))
/-- a way that cannot be -/
local macro_rules | `(tactic| walk_at "no") => `(tactic| (exfalso; first | assumption | omega | contradiction | (simp_all; done)))
/-- one step -/
local macro_rules | `(tactic| walk_at "g1") => `(tactic| with_reducible first
  | refine SH.g_var (by with_unfolding_all rfl) ?_ | refine SH.g_c ?_ | refine SH.g_op ?_ | refine SH.g_un ?_ | refine SH.g_I0 ?_ | refine SH.g_U ?_
  | refine SH.g_eqI ?_ | refine SH.g_neI ?_ | refine SH.g_eqS ?_ | refine SH.g_neS ?_
  | refine SH.g_test ?_ | refine SH.g_B ?_ | refine SH.g_isB ?_ | refine SH.g_and ?_ | refine SH.g_or ?_ | refine SH.g_not ?_ | refine SH.g_andV ?_ | refine SH.g_orV ?_ | refine SH.g_notV ?_ | refine SH.g_ifE ?_ | refine SH.g_chain ?_
  | refine SH.g_nil ?_ | refine SH.g_cons ?_ | refine SH.g_tup ?_ | refine SH.g_lst ?_ | refine SH.g_call ?_ | refine SH.g_fld ?_ | refine SH.g_meth ?_ | refine SH.g_make ?_ | refine SH.g_cb ?_ | refine SH.g_bm ?_
  | refine SH.g_seq ?_ | refine SH.g_asg ?_ | refine SH.g_name ?_ | refine SH.g_drop ?_ | refine SH.g_ret ?_ | refine SH.g_retN ?_ | refine SH.g_next ?_ | refine SH.g_brk ?_ | refine SH.g_cnt ?_ | refine SH.g_ifs ?_ | refine SH.g_par ?_ | refine SH.g_par2 ?_ | refine SH.g_fldS ?_ | refine SH.g_raise ?_ | refine SH.g_rs ?_
  | refine SH.g_sub ?_ | refine SH.g_yes ?_ | refine SH.g_sl ?_ | refine SH.g_noPart ?_ | refine SH.g_part ?_ | refine SH.g_intO ?_ | refine SH.g_dget ?_ | refine SH.g_dput ?_ | refine SH.g_forR ?_ | refine SH.g_forL ?_ | refine SH.g_forT ?_ | refine SH.g_lcR ?_ | refine SH.g_lcL ?_ | refine SH.g_lcT ?_ | refine SH.g_gcons ?_ | refine SH.g_gnil ?_
  | refine SH.br_t ?_ | refine SH.br_f ?_
  | refine SH.g_int ?_ | refine SH.g_abs ?_ | refine SH.g_max2 ?_ | refine SH.g_min2 ?_)
local macro_rules | `(tactic| walk_at "g2") => `(tactic| first
  | walk_at "g1"
  | ((with_reducible refine' SH.g_isiInt ?ga ?gz); (case ga => walk_at "kd"))
  | ((with_reducible refine' SH.g_isiBool ?ga ?gz); (case ga => walk_at "kd"))
  | ((with_reducible refine' SH.g_isiStr ?ga ?gz); (case ga => walk_at "kd"))
  | ((with_reducible refine' SH.g_isiTup ?ga ?gz); (case ga => walk_at "kd"))
  | ((with_reducible refine' SH.g_ixT ?ga ?gb ?gz); (case ga => walk_at "sq"); (case gb => rfl))
  | ((with_reducible refine' SH.g_ixL ?ga ?gb ?gz); (case ga => walk_at "sq"); (case gb => first | rfl | (apply SH.atI_refs; assumption)))
  | ((with_reducible refine SH.br_F ?_ ?_); (· decide +kernel)) | ((with_reducible refine SH.br_T ?_ ?_); (· decide +kernel)) | ((with_reducible refine SH.br_NF ?_ ?_); (· decide +kernel)) | ((with_reducible refine SH.br_NT ?_ ?_); (· decide +kernel))
  | ((with_reducible refine' SH.g_gtup ?ga ?gb ?gz); (case ga => walk_at "sq"); (case gb => rfl))
  | ((with_reducible refine' SH.g_lenT ?ga ?gz); (case ga => walk_at "sq"))
  | ((with_reducible refine' SH.g_lenL ?ga ?gz); (case ga => walk_at "sq"))
  | ((with_reducible refine SH.g_mkT (SH.sz rfl) ?_); intro _ _)
  | ((with_reducible refine SH.g_mkL (SH.sz rfl) ?_); intro _ _)
  | ((with_reducible refine SH.g_dnew ?_); intro _ _)
  | ((with_reducible refine' SH.g_tupL ?ga ?gz); (case ga => walk_at "sq"); intro _ _)
  | ((with_reducible refine' SH.g_lstL ?ga ?gz); (case ga => walk_at "sq"); intro _ _)
  | ((with_reducible refine' SH.g_lstT ?ga ?gz); (case ga => walk_at "sq"); intro _ _)
  | ((with_reducible refine' SH.g_dgR ?ga ?gb ?gz); (case ga => walk_at "hp"); (case gb => walk_at "dv"))
  | ((with_reducible refine' SH.g_fldR ?ga ?gb ?gc ?gd ?gz); (case ga => walk_at "hp"); (case gb => walk_at "cl"); (case gc => walk_at "na"); (case gd => walk_at "fv"))
  | ((with_reducible refine' SH.g_insR ?ga ?gb ?gz); (case ga => walk_at "hp"); (case gb => walk_at "fn"))
  | ((with_reducible refine' SH.g_setL ?ga ?gb ?gz); (case ga => walk_at "hp"); (case gb => rfl))
  | ((with_reducible refine SH.g_I ?_ ?_); (· walk_at "ci"))
  | ((with_reducible refine' SH.g_slL ?ga ?gz); (case ga => walk_at "sq"); intro _ _)
  | ((with_reducible refine' SH.g_cat ?ga ?gb ?gc ?gz); (case ga => walk_at "hp"); (case gb => walk_at "hp"); (case gc => walk_at "ls"); intro _ _))
/-- the side conditions of numbers: a divisor, a factor -/
local macro_rules | `(tactic| walk_at "ci") => `(tactic| first
  | (show _ ≠ _; omega) | (show _ < _; omega) | (constructor <;> omega) | (refine Or.inr ⟨?_, ?_⟩ <;> (show _ < _; omega)) | (refine Or.inl ⟨?_, ?_⟩ <;> (show _ < _; omega)) | (refine ⟨?_, ?_, ?_⟩ <;> decide))
local macro_rules | `(tactic| walk_at "ls") => `(tactic| first | (show _ ≤ _; exact Nat.le_trans (by assumption) (by decide)) | (show _ ≤ _; exact Nat.le_trans (by simp; omega) (by decide : 1000 ≤ sizeLine)))
local macro_rules | `(tactic| walk_at "dv") => `(tactic| rfl)
local macro_rules | `(tactic| walk_at "fv") => `(tactic| rfl)
local macro_rules | `(tactic| walk_at "fn") => `(tactic| rfl)
local macro_rules | `(tactic| walk_at "cl") => `(tactic| assumption)
local macro_rules | `(tactic| walk_at "na") => `(tactic| assumption)
local macro_rules | `(tactic| walk_at "go") => `(tactic| repeat walk_at "g2")
/-- a way is split -/
local macro_rules | `(tactic| walk_at "br") => `(tactic| with_reducible first
  | refine SH.br_d (fun _ => ?_) (fun _ => ?_) | refine SH.br_nd (fun _ => ?_) (fun _ => ?_) | refine SH.br_b (fun _ => ?_) (fun _ => ?_))
/-- all ways -/
local macro_rules | `(tactic| walk_at "all") => `(tactic| repeat' first | walk_at "g2" | (walk_at "br" <;> try (walk_at "no")))
/-- a truth value is the other -/
local macro_rules | `(tactic| walk_at "bq") => `(tactic| first | rfl | (simp_all; done) | (simp_all; omega) | (simp only [decide_eq_true_eq, decide_eq_false_iff_not, Bool.and_eq_true, Bool.or_eq_true] at *; omega))
/-- what was tracked is as it was -/
local macro_rules | `(tactic| walk_at "of") => `(tactic| first
  | assumption
  | exact SH.Off.refl _ _
  | (refine' SH.Off.new2 ?gx (by assumption); (case gx => walk_at "of"))
  | (refine' SH.Off.mut ?gx (by assumption); (case gx => walk_at "of"))
  | (refine' SH.Off.trans' ?gx (by assumption) ?gy; (case gy => (intro _ h; (first | exact h | (simp at h; done) | (simp at h ⊢; simp [h]; done)))); (case gx => walk_at "of")))
namespace SH
open PySem PySem.Spec PyProof.Rows L2
/-! ### values.py -/
def spIsInteger (K : PySem.W.Frag) : Sp := fun vs H Q _ => ∃ x k, vs = [x] ∧ KdV K H x k ∧ Q (.bl (k == .int)) H
def inB (lo hi : Int) : V → Bool
  | .int i => decide (lo ≤ i) && decide (i ≤ hi)
  | _ => false
def spIsIn (K : PySem.W.Frag) : Sp := fun vs H Q _ => ∃ x k lo hi, vs = [x, .int lo, .int hi] ∧ KdV K H x k ∧ Q (.bl (inB lo hi x)) H
/-- the wish of an own error: its class at C, its field f holds v -/
def RaiseW (C : Addr) (f : Str) (v : V) (H : Hp) (E : XK) : Prop := ∀ d, H d = none → E (.ref C) (some d) (upd H d (.xd [(f, v)]))
def spDemand (K : PySem.W.Frag) : Sp := fun vs H Q E => ∃ b n, vs = [.bl b, .str n] ∧ (b = true → Q .non H) ∧ (b = false → RaiseW (He.ga K "BadArgument") "name" (.str n) H E)
theorem qb {Q : VK} {a b : Bool} {H : Hp} (q : Q (.bl a) H) (e : a = b) : Q (.bl b) H := e ▸ q
section
variable {P : Program} {w : World} {K : PySem.W.Frag} {mg : Str → Option Value} {base : Heap}
theorem ok_is_integer (T : Txt P w K mg) : DefOk P w K mg base "is_integer" 1 ["value"] (spIsInteger K) := by
  refine T.d_is_integer.ok sc_is_integer (fun _ _ _ _ _ _ us hl => match us, hl with | [_], _ => rfl) (fun vs H Q E h => ?_) (fun f cdv A outer s H vs Q E hr h => ?_)
  · obtain ⟨x, k, rfl, _⟩ := h
    rfl
  · obtain ⟨x, k, rfl, hk, q⟩ := h
    have B := T.blt
    have hu := hu_of hr
    refine ⟨_, (pss_one (ps_ret (pe_and (pe_callB (call_isiK' (K := K) rfl) (by rfl) B.b_isinstance (by decide +kernel) (pa_cons (pv 0) (pa_cons (pe_bltn (v := .ty "int") rfl B.b_int (by decide +kernel) rfl) pa_nil))) (pe_one (pe_not (pe_callB (call_isiK' (K := K) rfl) (by rfl) B.b_isinstance (by decide +kernel) (pa_cons (pv 0) (pa_cons (pe_bltn (v := .ty "bool") rfl B.b_bool (by decide +kernel) rfl) pa_nil)))))))), ?_⟩
    walk_at "all"
    all_goals (refine qb q ?_; cases k <;> simp_all)
theorem ok_is_in (T : Txt P w K mg) : DefOk P w K mg base "is_in" 2 ["value", "low", "high"] (spIsIn K) := by
  refine T.d_is_in.ok sc_is_in (fun _ _ _ _ _ _ us hl => match us, hl with | [_, _, _], _ => rfl) (fun vs H Q E h => ?_) (fun f cdv A outer s H vs Q E hr h => ?_)
  · obtain ⟨x, k, lo, hi, rfl, _⟩ := h
    rfl
  · obtain ⟨x, k, lo, hi, rfl, hk, q⟩ := h
    have B := T.blt
    have hu := hu_of hr
    have G_is_integer := ok_is_integer (base := base) T
    refine ⟨_, (pss_one (ps_ret (pe_and (pe_df G_is_integer (hr.mono (by decide)) (L2N.passes_call (L2N.takes_of rfl rfl rfl rfl) fun _ _ _ _ z => z) (pa_cons (pv 0) pa_nil)) (pe_one (pe_chain op_le op_le (pv 1) (pv 0) (pv 2)))))), ?_⟩
    walk_at "go"
    refine ⟨x, k, rfl, hk, ?_⟩
    cases hk with
    | int i =>
      walk_at "all"
      all_goals (refine qb q ?_; (simp only [inB]; walk_at "bq"))
    | _ =>
      walk_at "all"
      all_goals (refine qb q ?_; first | rfl | (simp only [inB]; walk_at "bq"))
theorem ok_demand (T : Txt P w K mg) : DefOk P w K mg base "demand" 2 ["is_good", "name"] (spDemand K) := by
  refine T.d_demand.ok sc_demand (fun _ _ _ _ _ _ us hl => match us, hl with | [_, _], _ => rfl) (fun vs H Q E h => ?_) (fun f cdv A outer s H vs Q E hr h => ?_)
  · obtain ⟨b, n, rfl, _⟩ := h
    rfl
  · obtain ⟨b, n, rfl, q1, q2⟩ := h
    have B := T.blt
    have hu := hu_of hr
    have X_BadArgument := T.x_BadArgument
    refine ⟨_, (pss_one (ps_if (pt_not (pt_val (pv 0) (by intro _; rfl)))
    (pss_one (ps_raiseXs rfl X_BadArgument (hr.mono (by decide)) (L2N.takes_of rfl rfl rfl rfl) (pa_cons (pv 1) pa_nil)))
    pss_nil)), ?_⟩
    cases b with
    | true =>
      walk_at "all"
      exact q1 rfl
    | false =>
      walk_at "all"
      exact q2 rfl
end
end SH
end

section
/-! #### the walk's words -/
local macro_rules | `(tactic| walk_at "ne0") => `(tactic| first
  | assumption
  | (refine Ne.symm ?_; assumption))
local macro_rules | `(tactic| walk_at "ne") => `(tactic| first
  | assumption
  | (refine Ne.symm ?_; assumption)
  | (refine' L2.ne_of_none ?gx (by assumption); (case gx => walk_at "hp"))
  | (refine' Ne.symm (L2.ne_of_none ?gx (by assumption)); (case gx => walk_at "hp")))
local macro_rules | `(tactic| walk_at "hp") => `(tactic| first
  | assumption
  | exact L2.upd_same
  | (refine' SH.upd_new ?gh (by assumption); (case gh => walk_at "hp"))
  | (refine' (L2.upd_ne ?gn).trans ?gh; (case gn => walk_at "ne0"); (case gh => walk_at "hp"))
  | (refine' SH.Off.at (by assumption) ?gn ?gh; (case gn => walk_at "nin"); (case gh => walk_at "hp")))
local macro_rules | `(tactic| walk_at "nin") => `(tactic| first
  | exact SH.nin_nil
  | (refine SH.nin_cons ?_ ?_; (· walk_at "ne0"); (· walk_at "nin")))
local macro_rules | `(tactic| walk_at "sq") => `(tactic| first
  | assumption
  | (apply L2.SqL.of; (· walk_at "hp"))
  | (apply L2.SqT.of; (· walk_at "hp"))
  | (refine' SH.seqT_new ?gx (by assumption); (case gx => walk_at "sq"))
  | (refine' SH.seqL_new ?gx (by assumption); (case gx => walk_at "sq"))
  | (refine' SH.Off.seqT (by assumption) ?gx; (case gx => walk_at "sq"))
  | (refine' SH.Off.seqL (by assumption) ?gy ?gx; (case gx => walk_at "sq"); (case gy => walk_at "nin")))
local macro_rules | `(tactic| walk_at "kd") => `(tactic| first
  | assumption | exact SH.KdV.int _ | exact SH.KdV.bl _ | exact SH.KdV.str _ | exact SH.KdV.non
  | (apply SH.KdV.tup; (· walk_at "sq")) | (apply SH.KdV.lst; (· walk_at "sq")))
/-- a way that cannot be -/
local macro_rules | `(tactic| walk_at "no") => `(tactic| (exfalso; first | assumption | omega | contradiction | (simp_all; done)))
/-- one step -/
local macro_rules | `(tactic| walk_at "g1") => `(tactic| with_reducible first
  | refine SH.g_var (by with_unfolding_all rfl) ?_ | refine SH.g_c ?_ | refine SH.g_op ?_ | refine SH.g_un ?_ | refine SH.g_I0 ?_ | refine SH.g_U ?_
  | refine SH.g_eqI ?_ | refine SH.g_neI ?_ | refine SH.g_eqS ?_ | refine SH.g_neS ?_
  | refine SH.g_test ?_ | refine SH.g_B ?_ | refine SH.g_isB ?_ | refine SH.g_and ?_ | refine SH.g_or ?_ | refine SH.g_not ?_ | refine SH.g_andV ?_ | refine SH.g_orV ?_ | refine SH.g_notV ?_ | refine SH.g_ifE ?_ | refine SH.g_chain ?_
  | refine SH.g_nil ?_ | refine SH.g_cons ?_ | refine SH.g_tup ?_ | refine SH.g_lst ?_ | refine SH.g_call ?_ | refine SH.g_fld ?_ | refine SH.g_meth ?_ | refine SH.g_make ?_ | refine SH.g_cb ?_ | refine SH.g_bm ?_
  | refine SH.g_seq ?_ | refine SH.g_asg ?_ | refine SH.g_name ?_ | refine SH.g_drop ?_ | refine SH.g_ret ?_ | refine SH.g_retN ?_ | refine SH.g_next ?_ | refine SH.g_brk ?_ | refine SH.g_cnt ?_ | refine SH.g_ifs ?_ | refine SH.g_par ?_ | refine SH.g_par2 ?_ | refine SH.g_fldS ?_ | refine SH.g_raise ?_ | refine SH.g_rs ?_
  | refine SH.g_sub ?_ | refine SH.g_yes ?_ | refine SH.g_sl ?_ | refine SH.g_noPart ?_ | refine SH.g_part ?_ | refine SH.g_intO ?_ | refine SH.g_dget ?_ | refine SH.g_dput ?_ | refine SH.g_forR ?_ | refine SH.g_forL ?_ | refine SH.g_forT ?_ | refine SH.g_lcR ?_ | refine SH.g_lcL ?_ | refine SH.g_lcT ?_ | refine SH.g_gcons ?_ | refine SH.g_gnil ?_
  | refine SH.br_t ?_ | refine SH.br_f ?_
  | refine SH.g_int ?_ | refine SH.g_abs ?_ | refine SH.g_max2 ?_ | refine SH.g_min2 ?_)
local macro_rules | `(tactic| walk_at "g2") => `(tactic| first
  | walk_at "g1"
  | ((with_reducible refine' SH.g_isiInt ?ga ?gz); (case ga => walk_at "kd"))
  | ((with_reducible refine' SH.g_isiBool ?ga ?gz); (case ga => walk_at "kd"))
  | ((with_reducible refine' SH.g_isiStr ?ga ?gz); (case ga => walk_at "kd"))
  | ((with_reducible refine' SH.g_isiTup ?ga ?gz); (case ga => walk_at "kd"))
  | ((with_reducible refine' SH.g_ixT ?ga ?gb ?gz); (case ga => walk_at "sq"); (case gb => rfl))
  | ((with_reducible refine' SH.g_ixL ?ga ?gb ?gz); (case ga => walk_at "sq"); (case gb => first | rfl | (apply SH.atI_refs; assumption)))
  | ((with_reducible refine SH.br_F ?_ ?_); (· decide +kernel)) | ((with_reducible refine SH.br_T ?_ ?_); (· decide +kernel)) | ((with_reducible refine SH.br_NF ?_ ?_); (· decide +kernel)) | ((with_reducible refine SH.br_NT ?_ ?_); (· decide +kernel))
  | ((with_reducible refine' SH.g_gtup ?ga ?gb ?gz); (case ga => walk_at "sq"); (case gb => rfl))
  | ((with_reducible refine' SH.g_lenT ?ga ?gz); (case ga => walk_at "sq"))
  | ((with_reducible refine' SH.g_lenL ?ga ?gz); (case ga => walk_at "sq"))
  | ((with_reducible refine SH.g_mkT (SH.sz rfl) ?_); intro _ _)
  | ((with_reducible refine SH.g_mkL (SH.sz rfl) ?_); intro _ _)
  | ((with_reducible refine SH.g_dnew ?_); intro _ _)
  | ((with_reducible refine' SH.g_tupL ?ga ?gz); (case ga => walk_at "sq"); intro _ _)
  | ((with_reducible refine' SH.g_lstL ?ga ?gz); (case ga => walk_at "sq"); intro _ _)
  | ((with_reducible refine' SH.g_lstT ?ga ?gz); (case ga => walk_at "sq"); intro _ _)
  | ((with_reducible refine' SH.g_dgR ?ga ?gb ?gz); (case ga => walk_at "hp"); (case gb => walk_at "dv"))
  | ((with_reducible refine' SH.g_fldR ?ga ?gb ?gc ?gd ?gz); (case ga => walk_at "hp"); (case gb => walk_at "cl"); (case gc => walk_at "na"); (case gd => walk_at "fv"))
  | ((with_reducible refine' SH.g_insR ?ga ?gb ?gz); (case ga => walk_at "hp"); (case gb => walk_at "fn"))
  | ((with_reducible refine' SH.g_setL ?ga ?gb ?gz); (case ga => walk_at "hp"); (case gb => rfl))
  | ((with_reducible refine SH.g_I ?_ ?_); (· walk_at "ci"))
  | ((with_reducible refine' SH.g_slL ?ga ?gz); (case ga => walk_at "sq"); intro _ _)
  | ((with_reducible refine' SH.g_cat ?ga ?gb ?gc ?gz); (case ga => walk_at "hp"); (case gb => walk_at "hp"); (case gc => walk_at "ls"); intro _ _))
/-- the side conditions of numbers: a divisor, a factor -/
local macro_rules | `(tactic| walk_at "ci") => `(tactic| first
  | (show _ ≠ _; omega) | (show _ < _; omega) | (constructor <;> omega) | (refine Or.inr ⟨?_, ?_⟩ <;> (show _ < _; omega)) | (refine Or.inl ⟨?_, ?_⟩ <;> (show _ < _; omega)) | (refine ⟨?_, ?_, ?_⟩ <;> decide))
local macro_rules | `(tactic| walk_at "ls") => `(tactic| first | (show _ ≤ _; exact Nat.le_trans (by assumption) (by decide)) | (show _ ≤ _; exact Nat.le_trans (by simp; omega) (by decide : 1000 ≤ sizeLine)))
local macro_rules | `(tactic| walk_at "dv") => `(tactic| rfl)
local macro_rules | `(tactic| walk_at "fv") => `(tactic| rfl)
local macro_rules | `(tactic| walk_at "fn") => `(tactic| rfl)
local macro_rules | `(tactic| walk_at "cl") => `(tactic| assumption)
local macro_rules | `(tactic| walk_at "na") => `(tactic| assumption)
local macro_rules | `(tactic| walk_at "go") => `(tactic| repeat walk_at "g2")
/-- a way is split -/
local macro_rules | `(tactic| walk_at "br") => `(tactic| with_reducible first
  | refine SH.br_d (fun _ => ?_) (fun _ => ?_) | refine SH.br_nd (fun _ => ?_) (fun _ => ?_) | refine SH.br_b (fun _ => ?_) (fun _ => ?_))
/-- all ways -/
local macro_rules | `(tactic| walk_at "all") => `(tactic| repeat' first | walk_at "g2" | (walk_at "br" <;> try (walk_at "no")))
/-- a truth value is the other -/
local macro_rules | `(tactic| walk_at "bq") => `(tactic| first | rfl | (simp_all; done) | (simp_all; omega) | (simp only [decide_eq_true_eq, decide_eq_false_iff_not, Bool.and_eq_true, Bool.or_eq_true] at *; omega))
/-- what was tracked is as it was -/
local macro_rules | `(tactic| walk_at "of") => `(tactic| first
  | assumption
  | exact SH.Off.refl _ _
  | (refine' SH.Off.new2 ?gx (by assumption); (case gx => walk_at "of"))
  | (refine' SH.Off.mut ?gx (by assumption); (case gx => walk_at "of"))
  | (refine' SH.Off.trans' ?gx (by assumption) ?gy; (case gy => (intro _ h; (first | exact h | (simp at h; done) | (simp at h ⊢; simp [h]; done)))); (case gx => walk_at "of")))
namespace SH
open PySem PySem.Spec PyProof.Rows L2
/-! ### whether a value has the form of a step -/
def dat2 : V → PyData
  | .str z => .str z
  | .int i => .int i
  | .bl b => .bool b
  | _ => .none
def flB : V → Bool
  | .str z => PyData.canLay0 (.str z)
  | .int _ => true
  | .bl _ => true
  | .non => true
  | _ => false
def kdF : V → Kd
  | .str _ => .str
  | .int _ => .int
  | .bl _ => .bl
  | _ => .non
theorem KdV.flat {K : PySem.W.Frag} {H : Hp} {v : V} (h : flB v = true) : KdV K H v (kdF v) := by
  cases v with
  | str z => exact .str z
  | int i => exact .int i
  | bl b => exact .bl b
  | non => exact .non
  | _ => cases h
theorem fl_dpAll {K : PySem.W.Frag} {H : Hp} : ∀ {xs : List V}, xs.all flB = true → DpAll K H xs (xs.map dat2)
  | [], _ => .nil
  | x :: xs, h => by
    rw [List.all_cons, Bool.and_eq_true] at h
    cases x with
    | str z => exact .cons (.str z) (fl_dpAll h.2)
    | int i => exact .cons (.int i) (fl_dpAll h.2)
    | bl i => exact .cons (.bl i) (fl_dpAll h.2)
    | non => exact .cons .non (fl_dpAll h.2)
    | _ => cases h.1
theorem fl_lay : ∀ {xs : List V}, xs.all flB = true → PyData.canLayAll0 (xs.map dat2) = true
  | [], _ => rfl
  | x :: xs, h => by
    rw [List.all_cons, Bool.and_eq_true] at h
    show (PyData.canLay0 (dat2 x) && PyData.canLayAll0 (xs.map dat2)) = true
    rw [fl_lay h.2]
    cases x with
    | str z => rw [Bool.and_true]; exact h.1
    | int i => rfl
    | bl i => rfl
    | non => rfl
    | _ => cases h.1
theorem fl_depth : ∀ {xs : List V}, xs.all flB = true → PyData.depthAll (xs.map dat2) = 0
  | [], _ => rfl
  | x :: xs, h => by
    rw [List.all_cons, Bool.and_eq_true] at h
    show max (PyData.depth (dat2 x)) (PyData.depthAll (xs.map dat2)) = 0
    rw [fl_depth h.2]
    cases x <;> first | rfl | cases h.1
theorem fl_shaped {xs : List V} (h : xs.all flB = true) : SeqAt.shaped (.tuple (xs.map dat2)) = true := by
  unfold SeqAt.shaped
  rw [Bool.and_eq_true, decide_eq_true_eq]
  refine ⟨fl_lay h, ?_⟩
  show PyData.depthAll (xs.map dat2) + 1 ≤ 64
  rw [fl_depth h]
  omega
theorem g_eqUnitF {K : PySem.W.Frag} {H : Hp} {Q : VK} {p e : Addr} {xs : List V} (h : SqT K H p xs) (hf : xs.all flB = true) (hp : H e = some (.tup [])) (q : Q (.bl xs.isEmpty) H) : rEqD K (.ref p) (.ref e) H Q :=
  g_eqD (.tup h (fl_dpAll hf)) (.tup (.of hp) .nil) (fl_shaped hf) rfl (by
    have : PyData.eqv (.tuple (xs.map dat2)) (.tuple []) = xs.isEmpty := by cases xs <;> rfl
    rw [this]; exact q)
/-- the form of a step, for so many boats -/
def stepB (xs : List V) (n : Int) : Bool := match xs with
  | .str w :: rest =>
    if w = "tick" then decide (rest.length = 0) else match rest with
      | [] => false
      | b :: rest2 => inB 0 (n - 1) b && (if w = "tell" ∨ w = "hear" then decide (rest2.length = 0) else if w = "land" then (match rest2 with | [k] => inB 1 20 k | _ => false)
        else if w = "trade" then (match rest2 with | [t, k] => inB 0 (n - 1) t && !decide (b = t) && inB 1 500 k | _ => false) else false)
  | _ => false
theorem in_boat {b n : Nat} (h : b < n) : inB 0 ((n : Int) - 1) (.int (b : Int)) = true := by
  show (decide ((0 : Int) ≤ (b : Int)) && decide ((b : Int) ≤ (n : Int) - 1)) = true
  simp
  omega
theorem in_amt {n lo hi : Int} (h : lo ≤ n) (h2 : n ≤ hi) : inB lo hi (.int n) = true := by
  show (decide (lo ≤ n) && decide (n ≤ hi)) = true
  simp
  omega
theorem atI_consN {α : Type} {xs : List α} {v : α} {k : Nat} (h : xs[k]? = some v) : atI xs (k : Int) = some v := by
  obtain ⟨hk, e⟩ := List.getElem?_eq_some_iff.mp h
  unfold atI ixN
  rw [if_pos (by omega), if_pos (by omega)]
  simpa using h
theorem atI_cons0 {α : Type} {v : α} {vs : List α} : atI (v :: vs) 0 = some v := atI_consN (k := 0) rfl
theorem atI_cons1 {α : Type} {a v : α} {vs : List α} : atI (a :: v :: vs) 1 = some v := atI_consN (k := 1) rfl
theorem atI_cons2 {α : Type} {a b v : α} {vs : List α} : atI (a :: b :: v :: vs) 2 = some v := atI_consN (k := 2) rfl
theorem atI_cons3 {α : Type} {a b c v : α} {vs : List α} : atI (a :: b :: c :: v :: vs) 3 = some v := atI_consN (k := 3) rfl
theorem g_isIn {K : PySem.W.Frag} {H : Hp} {Q : VK} {E : XK} {x : V} {k : Kd} {lo hi : Int} (h : KdV K H x k) (q : Q (.bl (inB lo hi x)) H) : spIsIn K [x, .int lo, .int hi] H Q E := ⟨x, k, lo, hi, rfl, h, q⟩
def spStepX (K : PySem.W.Frag) : Sp := fun vs H Q _ => ∃ v n, vs = [v, .int ((n : Nat) : Int)] ∧ ((∃ kd, KdV K H v kd ∧ kd ≠ .tup ∧ Q (.bl false) H) ∨ (∃ p xs, v = .ref p ∧ SqT K H p xs ∧ xs.all flB = true ∧ ∀ H', Off [] H H' → Q (.bl (stepB xs n)) H') ∨
  (∃ p a xs ys d ds, v = .ref p ∧ SqT K H p (.ref a :: xs) ∧ SqT K H a ys ∧ (∀ H', Off [] H H' → Dp K H' (.ref p) (.tuple (d :: ds))) ∧ SeqAt.shaped (.tuple (d :: ds)) = true ∧ ∀ H', Off [] H H' → Q (.bl false) H'))
theorem g_neIn {H : Hp} {Q : VK} {x y : V} {lo hi lo' hi' : Int} (h1 : (!inB lo hi x) = false) (h2 : (!inB lo' hi' y) = false) (q : Q (.bl (!decide (x = y))) H) : rNe x y H Q := by
  cases x with
  | int i =>
    cases y with
    | int j => exact ⟨rfl, q⟩
    | _ => cases h2
  | _ => cases h1
theorem inV_two {z a b : Str} : inV (.str z) [.str a, .str b] = decide (z = a ∨ z = b) := by
  show (decide _ || (decide _ || false)) = _
  rw [Bool.or_false]
  by_cases h1 : z = a
  · subst h1; simp
  · by_cases h2 : z = b
    · subst h2; simp
    · simp [h1, h2, Ne.symm h1, Ne.symm h2, eq_comm (a := a), eq_comm (a := b)]
local macro_rules | `(tactic| walk_at "g2") => `(tactic|
  first
  | ((with_reducible refine' SH.g_ixT ?ga ?gb ?gz); (case ga => walk_at "sq"); (case gb => first | rfl | exact SH.atI_cons0 | exact SH.atI_cons1 | exact SH.atI_cons2 | exact SH.atI_cons3))
  | ((with_reducible refine' SH.g_isIn ?ga ?gz); (case ga => (apply SH.KdV.flat; assumption)))
  | (with_reducible first | refine SH.br_ntt ?_ | refine SH.br_ntf ?_ | refine SH.br_k ?_ | refine SH.br_nk ?_)
  | (with_reducible refine SH.g_neIn (by assumption) (by assumption) ?_)
  | ((with_reducible refine' SH.g_inT ?ga ?gb ?gc ?gz); (case ga => walk_at "sq"); (case gb => exact rfl); (case gc => kernel_rfl)))
section
variable {P : Program} {w : World} {K : PySem.W.Frag} {mg : Str → Option Value} {base : Heap}
theorem okX_is_season_step (T : Txt P w K mg) : DefOk P w K mg base "is_season_step" 3 ["step", "boats"] (spStepX K) := by
  refine T.d_is_season_step.ok sc_is_season_step (fun _ _ _ _ _ _ us hl => match us, hl with | [_, _], _ => rfl) (fun vs H Q E h => ?_) (fun f cdv A outer s H vs Q E hr h => ?_)
  · obtain ⟨v, n, rfl, _⟩ := h
    rfl
  · obtain ⟨v, n, rfl, h⟩ := h
    have B := T.blt
    have hu := hu_of hr
    have G_is_in := ok_is_in (base := base) T
    have c_MOST_SHARE := T.c_MOST_SHARE
    have c_MOST_LANDING := T.c_MOST_LANDING
    refine ⟨_, (pss_cons (ps_if (PW.pt (pw_or (pt_not (pt_val (pe_callB (call_isiK' (K := K) rfl) (by rfl) B.b_isinstance (by decide +kernel) (pa_cons (pv 0) (pa_cons (pe_bltn (v := .ty "tuple") rfl B.b_tuple (by decide +kernel) rfl) pa_nil))) (by intro _; rfl))) (pw_or (pt_cmpR (op_eqDK (K := K) rfl hr.units) (pv 0) (pe_tup pa_nil) (nomark _)) (pw_or1 (pt_not (pt_val (pe_callB (call_isiK' (K := K) rfl) (by rfl) B.b_isinstance (by decide +kernel) (pa_cons (pe_ix (ix_tupK (K := K) rfl) (pv 0) pe_int (fun _ _ => rfl)) (pa_cons (pe_bltn (v := .ty "str") rfl B.b_str (by decide +kernel) rfl) pa_nil))) (by intro _; rfl)))))))
    (pss_one (ps_ret pe_bl))
    pss_nil)
  (pss_cons (ps_if (pt_cmpR op_eq (pe_ix (ix_tupK (K := K) rfl) (pv 0) pe_int (fun _ _ => rfl)) pe_str (nomark _))
    (pss_one (ps_ret (pe_cmpR op_eq (pe_callB (c_lenK (K := K) rfl) (by rfl) B.b_len PySem.boot_len (pa_cons (pv 0) pa_nil)) pe_int (nomark _))))
    pss_nil)
  (pss_cons (ps_if (PW.pt (pw_or (pt_cmpR op_lt (pe_callB (c_lenK (K := K) rfl) (by rfl) B.b_len PySem.boot_len (pa_cons (pv 0) pa_nil)) pe_int (nomark _)) (pw_or1 (pt_not (pt_val (pe_df G_is_in (hr.mono (by decide)) (L2N.passes_call (L2N.takes_of rfl rfl rfl rfl) fun _ _ _ _ z => z) (pa_cons (pe_ix (ix_tupK (K := K) rfl) (pv 0) pe_int (fun _ _ => rfl)) (pa_cons pe_int (pa_cons (pe_op op_sub (pv 1) pe_int) pa_nil)))) (by intro _; rfl))))))
    (pss_one (ps_ret pe_bl))
    pss_nil)
  (pss_cons (ps_if (pt_cmpR (op_in_seqK (K := K) rfl) (pe_ix (ix_tupK (K := K) rfl) (pv 0) pe_int (fun _ _ => rfl)) (pe_tup (pa_cons pe_str (pa_cons pe_str pa_nil))) (by rfl))
    (pss_one (ps_ret (pe_cmpR op_eq (pe_callB (c_lenK (K := K) rfl) (by rfl) B.b_len PySem.boot_len (pa_cons (pv 0) pa_nil)) pe_int (nomark _))))
    pss_nil)
  (pss_cons (ps_if (pt_cmpR op_eq (pe_ix (ix_tupK (K := K) rfl) (pv 0) pe_int (fun _ _ => rfl)) pe_str (nomark _))
    (pss_one (ps_ret (pe_and (pe_cmpR op_eq (pe_callB (c_lenK (K := K) rfl) (by rfl) B.b_len PySem.boot_len (pa_cons (pv 0) pa_nil)) pe_int (nomark _)) (pe_one (pe_df G_is_in (hr.mono (by decide)) (L2N.passes_call (L2N.takes_of rfl rfl rfl rfl) fun _ _ _ _ z => z) (pa_cons (pe_ix (ix_tupK (K := K) rfl) (pv 0) pe_int (fun _ _ => rfl)) (pa_cons pe_int (pa_cons (pe_cint c_MOST_LANDING) pa_nil))))))))
    pss_nil)
  (pss_cons (ps_if (PW.pt (pw_or (pt_cmpR op_ne (pe_ix (ix_tupK (K := K) rfl) (pv 0) pe_int (fun _ _ => rfl)) pe_str (nomark _)) (pw_or (pt_cmpR op_ne (pe_callB (c_lenK (K := K) rfl) (by rfl) B.b_len PySem.boot_len (pa_cons (pv 0) pa_nil)) pe_int (nomark _)) (pw_or1 (pt_not (pt_val (pe_df G_is_in (hr.mono (by decide)) (L2N.passes_call (L2N.takes_of rfl rfl rfl rfl) fun _ _ _ _ z => z) (pa_cons (pe_ix (ix_tupK (K := K) rfl) (pv 0) pe_int (fun _ _ => rfl)) (pa_cons pe_int (pa_cons (pe_op op_sub (pv 1) pe_int) pa_nil)))) (by intro _; rfl)))))))
    (pss_one (ps_ret pe_bl))
    pss_nil)
  (pss_one (ps_ret (pe_and (pe_cmpR op_ne (pe_ix (ix_tupK (K := K) rfl) (pv 0) pe_int (fun _ _ => rfl)) (pe_ix (ix_tupK (K := K) rfl) (pv 0) pe_int (fun _ _ => rfl)) (nomark _)) (pe_one (pe_df G_is_in (hr.mono (by decide)) (L2N.passes_call (L2N.takes_of rfl rfl rfl rfl) fun _ _ _ _ z => z) (pa_cons (pe_ix (ix_tupK (K := K) rfl) (pv 0) pe_int (fun _ _ => rfl)) (pa_cons pe_int (pa_cons (pe_cint c_MOST_SHARE) pa_nil)))))))))))))), ?_⟩
    rcases h with ⟨kd, hk, nk, q⟩ | ⟨p, xs, rfl, hst, hf, q⟩ | ⟨p, a, xs, ys, d, ds, rfl, hst, ha, hd, hsh, q⟩
    · walk_at "all"
      all_goals (first | exact q | (exfalso; cases kd <;> simp_all))
    · walk_at "go"
      rename_i e he
      refine g_eqUnitF (seqT_new hst he) hf upd_same ?_
      rcases xs with _ | ⟨x, rest⟩
      · rw [show ([] : List V).isEmpty = true from rfl]
        walk_at "go"
        exact q _ (.new he)
      · have q' : ∀ b H', Off [] (upd H e (.tup [])) H' → stepB (x :: rest) n = b → Q (.bl b) H' := fun b H' o eb => eb ▸ q H' ((Off.new he).trans o)
        have hst' := seqT_new (o := .tup []) hst he
        clear hst q
        generalize upd H e (.tup []) = H1 at *
        rw [List.all_cons, Bool.and_eq_true] at hf
        obtain ⟨fx, fr⟩ := hf
        rw [show (x :: rest).isEmpty = false from rfl]
        walk_at "go"
        cases x with
        | str z =>
          rcases rest with _ | ⟨b, _ | ⟨t, _ | ⟨k, _ | ⟨u, more⟩⟩⟩⟩
          · walk_at "all"
            all_goals (refine q' _ _ (by walk_at "of") ?_; clear q' hst'; simp_all [stepB])
          · have fb : flB b = true := by simpa using fr
            clear fr
            walk_at "all"
            all_goals (refine q' _ _ (by walk_at "of") ?_)
            all_goals (clear q' hst'; first | (simp_all [stepB]; done) | (simp only [inV_two] at *; simp_all [stepB]; done))
          · simp only [List.all_cons, List.all_nil, Bool.and_true, Bool.and_eq_true] at fr
            obtain ⟨fb, ft⟩ := fr
            walk_at "all"
            all_goals (refine q' _ _ (by walk_at "of") ?_)
            all_goals (clear q' hst'; first | (simp_all [stepB]; done) | (simp only [inV_two] at *; simp_all [stepB]; done))
          · simp only [List.all_cons, List.all_nil, Bool.and_true, Bool.and_eq_true] at fr
            obtain ⟨fb, ft, fk⟩ := fr
            walk_at "all"
            all_goals (refine q' _ _ (by walk_at "of") ?_)
            all_goals (clear q' hst'; first | (simp_all [stepB]; done) | (simp only [inV_two] at *; simp_all [stepB]; done))
          · simp only [List.all_cons, Bool.and_eq_true] at fr
            obtain ⟨fb, ft, fk, fu⟩ := fr
            walk_at "all"
            all_goals (refine q' _ _ (by walk_at "of") ?_)
            all_goals (clear q' hst'; first | (simp_all [stepB]; done) | (simp only [inV_two] at *; simp_all [stepB]; done) | (simp only [inV_two] at *; simp_all [stepB]; omega) | (simp_all [stepB]; omega))
        | int i =>
          walk_at "go"
          exact q' _ _ (.refl _ _) rfl
        | bl i =>
          walk_at "go"
          exact q' _ _ (.refl _ _) rfl
        | non =>
          walk_at "go"
          exact q' _ _ (.refl _ _) rfl
        | _ => cases fx
    · walk_at "go"
      rename_i e he
      have oe : Off [] H (upd H e (.tup [])) := .new he
      have hst' := oe.seqT (K := K) hst
      have ha' := oe.seqT (K := K) ha
      refine g_eqD (hd (upd H e (.tup [])) oe) (.tup (.of upd_same) .nil) hsh rfl ?_
      rw [show PyData.eqv (.tuple (d :: ds)) (.tuple []) = false from rfl]
      walk_at "go"
      have kd : KdV K (upd H e (.tup [])) (.ref a) .tup := .tup ha'
      walk_at "go"
      exact q _ oe
end
end SH
end

section
/-! #### the walk's words -/
local macro_rules | `(tactic| walk_at "ne0") => `(tactic| first
  | assumption
  | (refine Ne.symm ?_; assumption))
local macro_rules | `(tactic| walk_at "ne") => `(tactic| first
  | assumption
  | (refine Ne.symm ?_; assumption)
  | (refine' L2.ne_of_none ?gx (by assumption); (case gx => walk_at "hp"))
  | (refine' Ne.symm (L2.ne_of_none ?gx (by assumption)); (case gx => walk_at "hp")))
local macro_rules | `(tactic| walk_at "hp") => `(tactic| first
  | assumption
  | exact L2.upd_same
  | (refine' SH.upd_new ?gh (by assumption); (case gh => walk_at "hp"))
  | (refine' (L2.upd_ne ?gn).trans ?gh; (case gn => walk_at "ne0"); (case gh => walk_at "hp"))
  | (refine' SH.Off.at (by assumption) ?gn ?gh; (case gn => walk_at "nin"); (case gh => walk_at "hp")))
local macro_rules | `(tactic| walk_at "nin") => `(tactic| first
  | exact SH.nin_nil
  | (refine SH.nin_cons ?_ ?_; (· walk_at "ne0"); (· walk_at "nin")))
local macro_rules | `(tactic| walk_at "sq") => `(tactic| first
  | assumption
  | (apply L2.SqL.of; (· walk_at "hp"))
  | (apply L2.SqT.of; (· walk_at "hp"))
  | (refine' SH.seqT_new ?gx (by assumption); (case gx => walk_at "sq"))
  | (refine' SH.seqL_new ?gx (by assumption); (case gx => walk_at "sq"))
  | (refine' SH.Off.seqT (by assumption) ?gx; (case gx => walk_at "sq"))
  | (refine' SH.Off.seqL (by assumption) ?gy ?gx; (case gx => walk_at "sq"); (case gy => walk_at "nin")))
local macro_rules | `(tactic| walk_at "kd") => `(tactic| first
  | assumption | exact SH.KdV.int _ | exact SH.KdV.bl _ | exact SH.KdV.str _ | exact SH.KdV.non
  | (apply SH.KdV.tup; (· walk_at "sq")) | (apply SH.KdV.lst; (· walk_at "sq")))
/-- a way that cannot be -/
local macro_rules | `(tactic| walk_at "no") => `(tactic| (exfalso; first | assumption | omega | contradiction | (simp_all; done)))
/-- one step -/
local macro_rules | `(tactic| walk_at "g1") => `(tactic| with_reducible first
  | refine SH.g_var (by with_unfolding_all rfl) ?_ | refine SH.g_c ?_ | refine SH.g_op ?_ | refine SH.g_un ?_ | refine SH.g_I0 ?_ | refine SH.g_U ?_
  | refine SH.g_eqI ?_ | refine SH.g_neI ?_ | refine SH.g_eqS ?_ | refine SH.g_neS ?_
  | refine SH.g_test ?_ | refine SH.g_B ?_ | refine SH.g_isB ?_ | refine SH.g_and ?_ | refine SH.g_or ?_ | refine SH.g_not ?_ | refine SH.g_andV ?_ | refine SH.g_orV ?_ | refine SH.g_notV ?_ | refine SH.g_ifE ?_ | refine SH.g_chain ?_
  | refine SH.g_nil ?_ | refine SH.g_cons ?_ | refine SH.g_tup ?_ | refine SH.g_lst ?_ | refine SH.g_call ?_ | refine SH.g_fld ?_ | refine SH.g_meth ?_ | refine SH.g_make ?_ | refine SH.g_cb ?_ | refine SH.g_bm ?_
  | refine SH.g_seq ?_ | refine SH.g_asg ?_ | refine SH.g_name ?_ | refine SH.g_drop ?_ | refine SH.g_ret ?_ | refine SH.g_retN ?_ | refine SH.g_next ?_ | refine SH.g_brk ?_ | refine SH.g_cnt ?_ | refine SH.g_ifs ?_ | refine SH.g_par ?_ | refine SH.g_par2 ?_ | refine SH.g_fldS ?_ | refine SH.g_raise ?_ | refine SH.g_rs ?_
  | refine SH.g_sub ?_ | refine SH.g_yes ?_ | refine SH.g_sl ?_ | refine SH.g_noPart ?_ | refine SH.g_part ?_ | refine SH.g_intO ?_ | refine SH.g_dget ?_ | refine SH.g_dput ?_ | refine SH.g_forR ?_ | refine SH.g_forL ?_ | refine SH.g_forT ?_ | refine SH.g_lcR ?_ | refine SH.g_lcL ?_ | refine SH.g_lcT ?_ | refine SH.g_gcons ?_ | refine SH.g_gnil ?_
  | refine SH.br_t ?_ | refine SH.br_f ?_
  | refine SH.g_int ?_ | refine SH.g_abs ?_ | refine SH.g_max2 ?_ | refine SH.g_min2 ?_)
local macro_rules | `(tactic| walk_at "g2") => `(tactic| first
  | walk_at "g1"
  | ((with_reducible refine' SH.g_isiInt ?ga ?gz); (case ga => walk_at "kd"))
  | ((with_reducible refine' SH.g_isiBool ?ga ?gz); (case ga => walk_at "kd"))
  | ((with_reducible refine' SH.g_isiStr ?ga ?gz); (case ga => walk_at "kd"))
  | ((with_reducible refine' SH.g_isiTup ?ga ?gz); (case ga => walk_at "kd"))
  | ((with_reducible refine' SH.g_ixT ?ga ?gb ?gz); (case ga => walk_at "sq"); (case gb => rfl))
  | ((with_reducible refine' SH.g_ixL ?ga ?gb ?gz); (case ga => walk_at "sq"); (case gb => first | rfl | (apply SH.atI_refs; assumption)))
  | ((with_reducible refine SH.br_F ?_ ?_); (· decide +kernel)) | ((with_reducible refine SH.br_T ?_ ?_); (· decide +kernel)) | ((with_reducible refine SH.br_NF ?_ ?_); (· decide +kernel)) | ((with_reducible refine SH.br_NT ?_ ?_); (· decide +kernel))
  | ((with_reducible refine' SH.g_gtup ?ga ?gb ?gz); (case ga => walk_at "sq"); (case gb => rfl))
  | ((with_reducible refine' SH.g_lenT ?ga ?gz); (case ga => walk_at "sq"))
  | ((with_reducible refine' SH.g_lenL ?ga ?gz); (case ga => walk_at "sq"))
  | ((with_reducible refine SH.g_mkT (SH.sz rfl) ?_); intro _ _)
  | ((with_reducible refine SH.g_mkL (SH.sz rfl) ?_); intro _ _)
  | ((with_reducible refine SH.g_dnew ?_); intro _ _)
  | ((with_reducible refine' SH.g_tupL ?ga ?gz); (case ga => walk_at "sq"); intro _ _)
  | ((with_reducible refine' SH.g_lstL ?ga ?gz); (case ga => walk_at "sq"); intro _ _)
  | ((with_reducible refine' SH.g_lstT ?ga ?gz); (case ga => walk_at "sq"); intro _ _)
  | ((with_reducible refine' SH.g_dgR ?ga ?gb ?gz); (case ga => walk_at "hp"); (case gb => walk_at "dv"))
  | ((with_reducible refine' SH.g_fldR ?ga ?gb ?gc ?gd ?gz); (case ga => walk_at "hp"); (case gb => walk_at "cl"); (case gc => walk_at "na"); (case gd => walk_at "fv"))
  | ((with_reducible refine' SH.g_insR ?ga ?gb ?gz); (case ga => walk_at "hp"); (case gb => walk_at "fn"))
  | ((with_reducible refine' SH.g_setL ?ga ?gb ?gz); (case ga => walk_at "hp"); (case gb => rfl))
  | ((with_reducible refine SH.g_I ?_ ?_); (· walk_at "ci"))
  | ((with_reducible refine' SH.g_slL ?ga ?gz); (case ga => walk_at "sq"); intro _ _)
  | ((with_reducible refine' SH.g_cat ?ga ?gb ?gc ?gz); (case ga => walk_at "hp"); (case gb => walk_at "hp"); (case gc => walk_at "ls"); intro _ _))
/-- the side conditions of numbers: a divisor, a factor -/
local macro_rules | `(tactic| walk_at "ci") => `(tactic| first
  | (show _ ≠ _; omega) | (show _ < _; omega) | (constructor <;> omega) | (refine Or.inr ⟨?_, ?_⟩ <;> (show _ < _; omega)) | (refine Or.inl ⟨?_, ?_⟩ <;> (show _ < _; omega)) | (refine ⟨?_, ?_, ?_⟩ <;> decide))
local macro_rules | `(tactic| walk_at "ls") => `(tactic| first | (show _ ≤ _; exact Nat.le_trans (by assumption) (by decide)) | (show _ ≤ _; exact Nat.le_trans (by simp; omega) (by decide : 1000 ≤ sizeLine)))
local macro_rules | `(tactic| walk_at "dv") => `(tactic| rfl)
local macro_rules | `(tactic| walk_at "fv") => `(tactic| rfl)
local macro_rules | `(tactic| walk_at "fn") => `(tactic| rfl)
local macro_rules | `(tactic| walk_at "cl") => `(tactic| assumption)
local macro_rules | `(tactic| walk_at "na") => `(tactic| assumption)
local macro_rules | `(tactic| walk_at "go") => `(tactic| repeat walk_at "g2")
/-- a way is split -/
local macro_rules | `(tactic| walk_at "br") => `(tactic| with_reducible first
  | refine SH.br_d (fun _ => ?_) (fun _ => ?_) | refine SH.br_nd (fun _ => ?_) (fun _ => ?_) | refine SH.br_b (fun _ => ?_) (fun _ => ?_))
/-- all ways -/
local macro_rules | `(tactic| walk_at "all") => `(tactic| repeat' first | walk_at "g2" | (walk_at "br" <;> try (walk_at "no")))
/-- a truth value is the other -/
local macro_rules | `(tactic| walk_at "bq") => `(tactic| first | rfl | (simp_all; done) | (simp_all; omega) | (simp only [decide_eq_true_eq, decide_eq_false_iff_not, Bool.and_eq_true, Bool.or_eq_true] at *; omega))
/-- what was tracked is as it was -/
local macro_rules | `(tactic| walk_at "of") => `(tactic| first
  | assumption
  | exact SH.Off.refl _ _
  | (refine' SH.Off.new2 ?gx (by assumption); (case gx => walk_at "of"))
  | (refine' SH.Off.mut ?gx (by assumption); (case gx => walk_at "of"))
  | (refine' SH.Off.trans' ?gx (by assumption) ?gy; (case gy => (intro _ h; (first | exact h | (simp at h; done) | (simp at h ⊢; simp [h]; done)))); (case gx => walk_at "of")))
namespace SH
open PySem PySem.Spec PyProof.Rows L2 TL NumText
/-! ### numbers as texts write them, plain -/
def digB (c : Nat) : Bool := decide (48 ≤ c) && decide (c ≤ 57)
theorem digB_all {l : List Nat} : l.all digB = true ↔ AllDigits l := by
  rw [List.all_eq_true]
  constructor
  · intro h c hc
    have := h c hc
    unfold digB at this
    simp at this
    exact this
  · intro h c hc
    have := h c hc
    unfold digB
    simp [this]
theorem val_snoc (l : List Nat) (c : Nat) : digitsVal (l ++ [c]) = digitsVal l * 10 + (c - 48) := by
  unfold digitsVal
  rw [List.foldl_append]
  rfl
/-- no zero ahead -/
def Canon (l : List Nat) : Prop := l ≠ [] ∧ AllDigits l ∧ (l.length = 1 ∨ l.head? ≠ some 48)
theorem snoc_ind {P : List Nat → Prop} (h0 : P []) (hs : ∀ l c, P l → P (l ++ [c])) : ∀ l, P l := fun l => by
  have h : ∀ r : List Nat, P r.reverse := fun r => by
    induction r with
    | nil => exact h0
    | cons a r ih =>
      rw [List.reverse_cons]
      exact hs _ _ ih
  have := h l.reverse
  rwa [List.reverse_reverse] at this
theorem val_pos : ∀ {l : List Nat}, AllDigits l → l ≠ [] → l.head? ≠ some 48 → 0 < digitsVal l := by
  intro l
  refine snoc_ind (P := fun l => AllDigits l → l ≠ [] → l.head? ≠ some 48 → 0 < digitsVal l) ?_ ?_ l
  · intro _ h; exact absurd rfl h
  · intro l c ih hd _ hh
    rw [val_snoc]
    have hc := hd c (by simp)
    cases l with
    | nil =>
      have : c ≠ 48 := fun z => hh (by simp [z])
      omega
    | cons a r =>
      have := ih (fun x hx => hd x (by simp at hx ⊢; rcases hx with h | h <;> simp [h])) (by simp) (by simpa using hh)
      omega
theorem numL_canon : ∀ {l : List Nat}, Canon l → numL (digitsVal l) = l := by
  intro l
  refine snoc_ind (P := fun l => Canon l → numL (digitsVal l) = l) ?_ ?_ l
  · intro h; exact absurd rfl h.1
  · intro l c ih ⟨_, hd, hh⟩
    have hc := hd c (by simp)
    rw [val_snoc]
    cases l with
    | nil =>
      have e : digitsVal [] = 0 := rfl
      rw [e, Nat.zero_mul, Nat.zero_add, numL_lt (by omega)]
      show [48 + (c - 48)] = [c]
      rw [show 48 + (c - 48) = c by omega]
    | cons a r =>
      have hd' : AllDigits (a :: r) := fun x hx => hd x (by simp at hx ⊢; rcases hx with h | h <;> simp [h])
      have hh' : (a :: r).head? ≠ some 48 := by
        rcases hh with h | h
        · simp at h
        · simpa using h
      have pos := val_pos hd' (by simp) hh'
      have := ih ⟨by simp, hd', .inr hh'⟩
      rw [numL_step (by omega), show (digitsVal (a :: r) * 10 + (c - 48)) / 10 = digitsVal (a :: r) by omega, show (digitsVal (a :: r) * 10 + (c - 48)) % 10 = c - 48 by omega, this, show 48 + (c - 48) = c by omega]
theorem numL_head : ∀ n : Nat, 0 < n → (numL n).head? ≠ some 48 := by
  intro n
  induction n using Nat.strongRecOn with
  | _ n ih =>
    intro h0
    by_cases h : n < 10
    · rw [numL_lt h]
      simp
      omega
    · rw [numL_step (by omega)]
      have h2 := ih (n / 10) (by omega) (by omega)
      have h3 := numL_ne (n / 10)
      cases e : numL (n / 10) with
      | nil => exact absurd e h3
      | cons a r =>
        rw [e] at h2
        simpa using h2
theorem canon_num (n : Nat) : Canon (numL n) := by
  refine ⟨numL_ne n, numL_digits n, ?_⟩
  by_cases h : n < 10
  · rw [numL_lt h]
    exact .inl rfl
  · exact .inr (numL_head n (by omega))
/-- the number that a word of at most m figures writes, no zero ahead -/
def numW (m : Int) (l : List Nat) : Option Nat := if ((l.isEmpty = false ∧ (l.length : Int) ≤ m) ∧ l.all digB = true) ∧ (l.length = 1 ∨ l.head? ≠ some 48) then some (digitsVal l) else none
theorem numW_some {m : Int} {l : List Nat} {n : Nat} (h : numW m l = some n) : Canon l ∧ (l.length : Int) ≤ m ∧ n = digitsVal l := by
  unfold numW at h
  split at h
  · rename_i c
    cases h
    obtain ⟨⟨⟨c1, c2⟩, c3⟩, c4⟩ := c
    exact ⟨⟨fun z => (by rw [z] at c1; cases c1), digB_all.mp c3, c4⟩, c2, rfl⟩
  · cases h
theorem numW_canon {m : Int} {l : List Nat} (h : Canon l) (hm : (l.length : Int) ≤ m) : numW m l = some (digitsVal l) := by
  obtain ⟨h1, h2, h3⟩ := h
  unfold numW
  have he : l.isEmpty = false := by
    cases l with
    | nil => exact absurd rfl h1
    | cons a r => rfl
  rw [if_pos ⟨⟨⟨he, hm⟩, digB_all.mpr h2⟩, h3⟩]
theorem numW_num {m : Int} {n : Nat} (h : ((numL n).length : Int) ≤ m) : numW m (numL n) = some n := by
  rw [numW_canon (canon_num n) h, numL_val]
/-- the figures behind a sign -/
def figs (l : List Nat) : List Nat := if l.take 1 = [45] then l.drop 1 else l
/-- what integer_of returns -/
def iwV (m : Int) (z : Str) : V := if (figs (tl z)).isEmpty = true ∨ m < ((figs (tl z)).length : Int) ∨ (figs (tl z)).all digB = false then .non else match intText? z with
  | some i => if tl (Str.ofString (toString i)) = tl z then .int i else .non
  | none => .non
theorem figs_digits {l : List Nat} (h : AllDigits l) : figs l = l := by
  unfold figs
  split
  · rename_i c
    cases l with
    | nil => cases c
    | cons a r =>
      have := h a (by simp)
      simp at c
      omega
  · rfl
theorem tl_nonneg {i : Int} (h : 0 ≤ i) : tl (Str.ofString (toString i)) = numL i.toNat := by
  have : i = ((i.toNat : Nat) : Int) := by omega
  rw [this, tl_num]
  rfl
theorem iw_some {m : Int} {z : Str} {i : Int} (h : iwV m z = .int i) (h0 : 0 ≤ i) : numW m (tl z) = some i.toNat := by
  unfold iwV at h
  split at h
  · cases h
  · rename_i c
    split at h
    · rename_i j e
      split at h
      · rename_i t
        cases h
        rw [tl_nonneg h0] at t
        have cn := canon_num i.toNat
        have fd := figs_digits cn.2.1
        have hm : ((tl z).length : Int) ≤ m := by
          rw [← t] at c ⊢
          rw [fd] at c
          omega
        rw [← t] at hm ⊢
        exact numW_num hm
      · cases h
    · cases h
theorem iw_num {m : Int} {z : Str} {n : Nat} (hm : m ≤ 4000) (h : numW m (tl z) = some n) : iwV m z = .int n := by
  obtain ⟨cn, hl, e⟩ := numW_some h
  have fd := figs_digits cn.2.1
  unfold iwV
  rw [fd, if_neg (by
    rintro (c | c | c)
    · rw [List.isEmpty_iff] at c
      exact cn.1 c
    · omega
    · rw [digB_all.mpr cn.2.1] at c; cases c)]
  have hz := len_tl z
  rw [intText_digits cn.2.1 cn.1 (by omega)]
  show (if tl (Str.ofString (toString ((digitsVal (tl z) : Nat) : Int))) = tl z then V.int _ else _) = _
  rw [tl_num, if_pos (numL_canon cn), e]
/-- within bounds from 0 on -/
theorem iw_in {m : Int} {z : Str} {lo hi : Int} (hm : m ≤ 4000) (h0 : 0 ≤ lo) : inB lo hi (iwV m z) = match numW m (tl z) with
    | some n => decide (lo ≤ (n : Int)) && decide ((n : Int) ≤ hi)
    | none => false := by
  cases e : numW m (tl z) with
  | some n =>
    rw [iw_num hm e]
    rfl
  | none =>
    cases c : iwV m z with
    | int i =>
      show (decide (lo ≤ i) && decide (i ≤ hi)) = false
      by_cases hi0 : 0 ≤ i
      · rw [iw_some c hi0] at e; cases e
      · rw [decide_eq_false (by omega), Bool.false_and]
    | _ => rfl
theorem iw_flat (m : Int) (z : Str) : flB (iwV m z) = true := by
  unfold iwV
  split
  · rfl
  · split
    · split <;> rfl
    · rfl
theorem tl_cut_take {z : Str} (n : Nat) : tl (cutS z none (some (n : Int))) = (tl z).take n := by
  unfold cutS
  rw [HT.sIx_none, HT.sIx_nat, List.drop_zero, Nat.sub_zero]
  have hz := len_tl z
  show (tl z).take (min n z.length) = _
  rw [hz]
  rcases Nat.le_total n (tl z).length with h | h
  · rw [Nat.min_eq_left h]
  · rw [Nat.min_eq_right h, List.take_of_length_le (Nat.le_refl _), List.take_of_length_le h]
theorem tl_cut_drop {z : Str} (n : Nat) : tl (cutS z (some (n : Int)) none) = (tl z).drop n := by
  unfold cutS
  rw [HT.sIx_none, HT.sIx_nat]
  have hz := len_tl z
  show ((tl z).drop (min n z.length)).take (z.length - min n z.length) = _
  rw [hz]
  rcases Nat.le_total n (tl z).length with h | h
  · rw [Nat.min_eq_left h]
    exact List.take_of_length_le (by rw [List.length_drop]; exact Nat.le_refl _)
  · rw [Nat.min_eq_right h, List.drop_of_length_le (Nat.le_refl _), List.drop_of_length_le h, List.take_nil]
theorem str_eq {x y : Str} : x = y ↔ tl x = tl y := ⟨fun h => by rw [h], ext_tl⟩
theorem val_lt (l : List Nat) : AllDigits l → digitsVal l < 10 ^ l.length := by
  refine snoc_ind (P := fun l => AllDigits l → digitsVal l < 10 ^ l.length) ?_ ?_ l
  · intro _
    exact Nat.lt_of_lt_of_le (by decide : 0 < 1) (Nat.le_refl _)
  · intro l c ih hd
    have h1 := ih fun x hx => hd x (by simp [hx])
    have h2 := hd c (by simp)
    rw [val_snoc, List.length_append, List.length_singleton, Nat.pow_succ]
    omega
theorem int_text {z : Str} {m : Int} (h1 : (figs (tl z)).isEmpty = false) (h2 : ((figs (tl z)).length : Int) ≤ m) (hm : m ≤ 100) (h3 : (figs (tl z)).all digB = true) : ∃ i : Int, intText? z = some i ∧ i.natAbs < 10 ^ 100 ∧ z.length ≤ 101 := by
  have hz := len_tl z
  have hd := digB_all.mp h3
  have hne : figs (tl z) ≠ [] := fun e => by rw [e] at h1; cases h1
  have hv := val_lt _ hd
  have hb : digitsVal (figs (tl z)) < 10 ^ 100 := Nat.lt_of_lt_of_le hv (Nat.pow_le_pow_right (by decide) (by omega))
  unfold figs at *
  split at hd
  · rename_i c
    rw [if_pos c] at *
    have e : tl z = 45 :: (tl z).drop 1 := by
      cases ee : tl z with
      | nil => rw [ee] at c; cases c
      | cons a r =>
        rw [ee] at c
        simp at c
        simp [c]
    have hl : (tl z).length = ((tl z).drop 1).length + 1 := by
      have := congrArg List.length e
      simpa using this
    refine ⟨_, intText_neg e hd hne (by omega), ?_, by omega⟩
    rw [Int.natAbs_neg, Int.natAbs_natCast]
    exact hb
  · rename_i c
    rw [if_neg c] at *
    refine ⟨_, intText_digits hd hne (by omega), ?_, by omega⟩
    rw [Int.natAbs_natCast]
    exact hb
theorem tl_zero : tl ("0" : Str) = [48] := by kernel_rfl
theorem tl_nine : tl ("9" : Str) = [57] := by kernel_rfl
theorem tl_minus : tl ("-" : Str) = [45] := by kernel_rfl
theorem tl_none : tl ("" : Str) = [] := by kernel_rfl
theorem tl_figs : tl ("0123456789" : Str) = [48, 49, 50, 51, 52, 53, 54, 55, 56, 57] := by kernel_rfl
theorem sign_ge (k : Nat) : (!decide (tl (⟨#[k]⟩ : Str) < tl ("0" : Str))) = decide (48 ≤ k) := by
  rw [tl_zero]
  show (!decide ([k] < [48])) = _
  by_cases h : 48 ≤ k
  · rw [decide_eq_true h, decide_eq_false (by simp [List.cons_lt_cons_iff]; omega)]
    rfl
  · rw [decide_eq_false h, decide_eq_true (by simp [List.cons_lt_cons_iff]; omega)]
    rfl
theorem sign_le (k : Nat) : (!decide (tl ("9" : Str) < tl (⟨#[k]⟩ : Str))) = decide (k ≤ 57) := by
  rw [tl_nine]
  show (!decide ([57] < [k])) = _
  by_cases h : k ≤ 57
  · rw [decide_eq_true h, decide_eq_false (by simp [List.cons_lt_cons_iff]; omega)]
    rfl
  · rw [decide_eq_false h, decide_eq_true (by simp [List.cons_lt_cons_iff]; omega)]
    rfl
theorem sign_in (k : Nat) : decide (k ∈ tl ("0123456789" : Str)) = digB k := by
  rw [tl_figs]
  unfold digB
  rw [← Bool.decide_and]
  apply decide_eq_decide.mpr
  simp only [List.mem_cons, List.not_mem_nil, or_false]
  omega
end SH
end

section
/-! #### the walk's words -/
local macro_rules | `(tactic| walk_at "ne0") => `(tactic| first
  | assumption
  | (refine Ne.symm ?_; assumption))
local macro_rules | `(tactic| walk_at "ne") => `(tactic| first
  | assumption
  | (refine Ne.symm ?_; assumption)
  | (refine' L2.ne_of_none ?gx (by assumption); (case gx => walk_at "hp"))
  | (refine' Ne.symm (L2.ne_of_none ?gx (by assumption)); (case gx => walk_at "hp")))
local macro_rules | `(tactic| walk_at "hp") => `(tactic| first
  | assumption
  | exact L2.upd_same
  | (refine' SH.upd_new ?gh (by assumption); (case gh => walk_at "hp"))
  | (refine' (L2.upd_ne ?gn).trans ?gh; (case gn => walk_at "ne0"); (case gh => walk_at "hp"))
  | (refine' SH.Off.at (by assumption) ?gn ?gh; (case gn => walk_at "nin"); (case gh => walk_at "hp")))
local macro_rules | `(tactic| walk_at "nin") => `(tactic| first
  | exact SH.nin_nil
  | (refine SH.nin_cons ?_ ?_; (· walk_at "ne0"); (· walk_at "nin")))
local macro_rules | `(tactic| walk_at "sq") => `(tactic| first
  | assumption
  | (apply L2.SqL.of; (· walk_at "hp"))
  | (apply L2.SqT.of; (· walk_at "hp"))
  | (refine' SH.seqT_new ?gx (by assumption); (case gx => walk_at "sq"))
  | (refine' SH.seqL_new ?gx (by assumption); (case gx => walk_at "sq"))
  | (refine' SH.Off.seqT (by assumption) ?gx; (case gx => walk_at "sq"))
  | (refine' SH.Off.seqL (by assumption) ?gy ?gx; (case gx => walk_at "sq"); (case gy => walk_at "nin")))
local macro_rules | `(tactic| walk_at "kd") => `(tactic| first
  | assumption | exact SH.KdV.int _ | exact SH.KdV.bl _ | exact SH.KdV.str _ | exact SH.KdV.non
  | (apply SH.KdV.tup; (· walk_at "sq")) | (apply SH.KdV.lst; (· walk_at "sq")))
/-- a way that cannot be -/
local macro_rules | `(tactic| walk_at "no") => `(tactic| (exfalso; first | assumption | omega | contradiction | (simp_all; done)))
/-- one step -/
local macro_rules | `(tactic| walk_at "g1") => `(tactic| with_reducible first
  | refine SH.g_var (by with_unfolding_all rfl) ?_ | refine SH.g_c ?_ | refine SH.g_op ?_ | refine SH.g_un ?_ | refine SH.g_I0 ?_ | refine SH.g_U ?_
  | refine SH.g_eqI ?_ | refine SH.g_neI ?_ | refine SH.g_eqS ?_ | refine SH.g_neS ?_
  | refine SH.g_test ?_ | refine SH.g_B ?_ | refine SH.g_isB ?_ | refine SH.g_and ?_ | refine SH.g_or ?_ | refine SH.g_not ?_ | refine SH.g_andV ?_ | refine SH.g_orV ?_ | refine SH.g_notV ?_ | refine SH.g_ifE ?_ | refine SH.g_chain ?_
  | refine SH.g_nil ?_ | refine SH.g_cons ?_ | refine SH.g_tup ?_ | refine SH.g_lst ?_ | refine SH.g_call ?_ | refine SH.g_fld ?_ | refine SH.g_meth ?_ | refine SH.g_make ?_ | refine SH.g_cb ?_ | refine SH.g_bm ?_
  | refine SH.g_seq ?_ | refine SH.g_asg ?_ | refine SH.g_name ?_ | refine SH.g_drop ?_ | refine SH.g_ret ?_ | refine SH.g_retN ?_ | refine SH.g_next ?_ | refine SH.g_brk ?_ | refine SH.g_cnt ?_ | refine SH.g_ifs ?_ | refine SH.g_par ?_ | refine SH.g_par2 ?_ | refine SH.g_fldS ?_ | refine SH.g_raise ?_ | refine SH.g_rs ?_
  | refine SH.g_sub ?_ | refine SH.g_yes ?_ | refine SH.g_sl ?_ | refine SH.g_noPart ?_ | refine SH.g_part ?_ | refine SH.g_intO ?_ | refine SH.g_dget ?_ | refine SH.g_dput ?_ | refine SH.g_forR ?_ | refine SH.g_forL ?_ | refine SH.g_forT ?_ | refine SH.g_lcR ?_ | refine SH.g_lcL ?_ | refine SH.g_lcT ?_ | refine SH.g_gcons ?_ | refine SH.g_gnil ?_
  | refine SH.br_t ?_ | refine SH.br_f ?_
  | refine SH.g_int ?_ | refine SH.g_abs ?_ | refine SH.g_max2 ?_ | refine SH.g_min2 ?_)
local macro_rules | `(tactic| walk_at "g2") => `(tactic| first
  | walk_at "g1"
  | ((with_reducible refine' SH.g_isiInt ?ga ?gz); (case ga => walk_at "kd"))
  | ((with_reducible refine' SH.g_isiBool ?ga ?gz); (case ga => walk_at "kd"))
  | ((with_reducible refine' SH.g_isiStr ?ga ?gz); (case ga => walk_at "kd"))
  | ((with_reducible refine' SH.g_isiTup ?ga ?gz); (case ga => walk_at "kd"))
  | ((with_reducible refine' SH.g_ixT ?ga ?gb ?gz); (case ga => walk_at "sq"); (case gb => rfl))
  | ((with_reducible refine' SH.g_ixL ?ga ?gb ?gz); (case ga => walk_at "sq"); (case gb => first | rfl | (apply SH.atI_refs; assumption)))
  | ((with_reducible refine SH.br_F ?_ ?_); (· decide +kernel)) | ((with_reducible refine SH.br_T ?_ ?_); (· decide +kernel)) | ((with_reducible refine SH.br_NF ?_ ?_); (· decide +kernel)) | ((with_reducible refine SH.br_NT ?_ ?_); (· decide +kernel))
  | ((with_reducible refine' SH.g_gtup ?ga ?gb ?gz); (case ga => walk_at "sq"); (case gb => rfl))
  | ((with_reducible refine' SH.g_lenT ?ga ?gz); (case ga => walk_at "sq"))
  | ((with_reducible refine' SH.g_lenL ?ga ?gz); (case ga => walk_at "sq"))
  | ((with_reducible refine SH.g_mkT (SH.sz rfl) ?_); intro _ _)
  | ((with_reducible refine SH.g_mkL (SH.sz rfl) ?_); intro _ _)
  | ((with_reducible refine SH.g_dnew ?_); intro _ _)
  | ((with_reducible refine' SH.g_tupL ?ga ?gz); (case ga => walk_at "sq"); intro _ _)
  | ((with_reducible refine' SH.g_lstL ?ga ?gz); (case ga => walk_at "sq"); intro _ _)
  | ((with_reducible refine' SH.g_lstT ?ga ?gz); (case ga => walk_at "sq"); intro _ _)
  | ((with_reducible refine' SH.g_dgR ?ga ?gb ?gz); (case ga => walk_at "hp"); (case gb => walk_at "dv"))
  | ((with_reducible refine' SH.g_fldR ?ga ?gb ?gc ?gd ?gz); (case ga => walk_at "hp"); (case gb => walk_at "cl"); (case gc => walk_at "na"); (case gd => walk_at "fv"))
  | ((with_reducible refine' SH.g_insR ?ga ?gb ?gz); (case ga => walk_at "hp"); (case gb => walk_at "fn"))
  | ((with_reducible refine' SH.g_setL ?ga ?gb ?gz); (case ga => walk_at "hp"); (case gb => rfl))
  | ((with_reducible refine SH.g_I ?_ ?_); (· walk_at "ci"))
  | ((with_reducible refine' SH.g_slL ?ga ?gz); (case ga => walk_at "sq"); intro _ _)
  | ((with_reducible refine' SH.g_cat ?ga ?gb ?gc ?gz); (case ga => walk_at "hp"); (case gb => walk_at "hp"); (case gc => walk_at "ls"); intro _ _))
/-- the side conditions of numbers: a divisor, a factor -/
local macro_rules | `(tactic| walk_at "ci") => `(tactic| first
  | (show _ ≠ _; omega) | (show _ < _; omega) | (constructor <;> omega) | (refine Or.inr ⟨?_, ?_⟩ <;> (show _ < _; omega)) | (refine Or.inl ⟨?_, ?_⟩ <;> (show _ < _; omega)) | (refine ⟨?_, ?_, ?_⟩ <;> decide))
local macro_rules | `(tactic| walk_at "ls") => `(tactic| first | (show _ ≤ _; exact Nat.le_trans (by assumption) (by decide)) | (show _ ≤ _; exact Nat.le_trans (by simp; omega) (by decide : 1000 ≤ sizeLine)))
local macro_rules | `(tactic| walk_at "dv") => `(tactic| rfl)
local macro_rules | `(tactic| walk_at "fv") => `(tactic| rfl)
local macro_rules | `(tactic| walk_at "fn") => `(tactic| rfl)
local macro_rules | `(tactic| walk_at "cl") => `(tactic| assumption)
local macro_rules | `(tactic| walk_at "na") => `(tactic| assumption)
local macro_rules | `(tactic| walk_at "go") => `(tactic| repeat walk_at "g2")
/-- a way is split -/
local macro_rules | `(tactic| walk_at "br") => `(tactic| with_reducible first
  | refine SH.br_d (fun _ => ?_) (fun _ => ?_) | refine SH.br_nd (fun _ => ?_) (fun _ => ?_) | refine SH.br_b (fun _ => ?_) (fun _ => ?_))
/-- all ways -/
local macro_rules | `(tactic| walk_at "all") => `(tactic| repeat' first | walk_at "g2" | (walk_at "br" <;> try (walk_at "no")))
/-- a truth value is the other -/
local macro_rules | `(tactic| walk_at "bq") => `(tactic| first | rfl | (simp_all; done) | (simp_all; omega) | (simp only [decide_eq_true_eq, decide_eq_false_iff_not, Bool.and_eq_true, Bool.or_eq_true] at *; omega))
/-- what was tracked is as it was -/
local macro_rules | `(tactic| walk_at "of") => `(tactic| first
  | assumption
  | exact SH.Off.refl _ _
  | (refine' SH.Off.new2 ?gx (by assumption); (case gx => walk_at "of"))
  | (refine' SH.Off.mut ?gx (by assumption); (case gx => walk_at "of"))
  | (refine' SH.Off.trans' ?gx (by assumption) ?gy; (case gy => (intro _ h; (first | exact h | (simp at h; done) | (simp at h ⊢; simp [h]; done)))); (case gx => walk_at "of")))
namespace SH
open PySem PySem.Spec PyProof.Rows L2 TL NumText
/-- a text that is not too long, of plain signs -/
structure PlT (z : Str) (n : Nat) : Prop where
  len : z.length ≤ n
  sg : ∀ c ∈ tl z, c < 128
theorem PlT.mono {z : Str} {n m : Nat} (h : PlT z n) (k : n ≤ m) : PlT z m := ⟨Nat.le_trans h.len k, h.sg⟩
local macro_rules | `(tactic| walk_at "g2") => `(tactic| first
  | (with_reducible first | refine SH.br_ntt ?_ | refine SH.br_ntf ?_ | refine SH.br_k ?_ | refine SH.br_nk ?_ | refine SH.g_lcS ?_ | refine SH.g_leS ?_ | refine SH.g_niS ?_ | refine SH.g_strS ?_)
  | ((with_reducible refine SH.g_slS ?_ ?_); (· omega))
  | ((with_reducible refine SH.g_lenS ?_ ?_); (· omega)))
def spIntOf : Sp := fun vs H Q _ => ∃ (z : Str) (m : Int), vs = [.str z, .int m] ∧ z.length ≤ 1000000 ∧ m ≤ 100 ∧ ∀ H', Off [] H H' → Q (iwV m z) H'
def spLNum : Sp := fun vs H Q _ => ∃ (z : Str) (m : Int), vs = [.str z, .int m] ∧ PlT z 1000000 ∧ m ≤ 100 ∧ ∀ H', Off [] H H' → Q (.int (match numW m (tl z) with | some n => (n : Int) | none => -1)) H'
section
variable {P : Program} {w : World} {K : PySem.W.Frag} {mg : Str → Option Value} {base : Heap}
theorem ok_integer_of (T : Txt P w K mg) : DefOk P w K mg base "integer_of" 1 ["text", "most"] spIntOf := by
  refine T.d_integer_of.ok sc_integer_of (fun _ _ _ _ _ _ us hl => match us, hl with | [_, _], _ => rfl) (fun vs H Q E h => ?_) (fun f cdv A outer s H vs Q E hr h => ?_)
  · obtain ⟨z, m, rfl, _⟩ := h
    rfl
  · obtain ⟨z, m, rfl, hz, hm, q⟩ := h
    have hsz := sizeLine_eq
    have B := T.blt
    have hu := hu_of hr
    refine ⟨_, (pss_cut (ps_set (i := 2) sc_integer_of.nd rfl (by first | exact Or.inl rfl | exact Or.inr rfl) (pe_ifExp (pt_cmpR op_eq (pe_slice sl_str (pv 0) po_none (po_some pe_int)) pe_str (nomark _)) (pe_slice sl_str (pv 0) (po_some pe_int) po_none) (pv 0)))
  (pss_cons (ps_if (PW.pt (pw_or (pt_cmpR op_eq (pv 2) pe_str (nomark _)) (pw_or (pt_cmpR op_gt (pe_callB c_lenS (by rfl) B.b_len PySem.boot_len (pa_cons (pv 2) pa_nil)) (pv 1) (nomark _)) (pw_or1 (pt_not (pt_val (pe_callB (cr_allK (K := K) rfl rfl) (by rfl) B.b_all (by decide +kernel) (pa_cons (pe_lc (own := [("sign", 3)]) rfl sc_integer_of.nd (pi_str (pv 2)) (blkOk_by (own := [("sign", 3)]) (N := ["text", "most", "figures", "sign"]) (sc := defScope s_integer_of) (by decide +kernel)) (fun _ _ _ _ _ => (pg_name (i := 3) sc_integer_of.nd rfl (by first | exact Or.inl rfl | exact Or.inr rfl))) (fun _ _ _ _ _ => pts_nil) (fun _ _ _ _ _ => (pe_chain op_leS op_leS pe_str (pv 3) pe_str))) pa_nil)) (by intro _; rfl)))))))
    (pss_one (ps_ret pe_non))
    pss_nil)
  (pss_one (ps_ret (pe_ifExp (pt_cmpR op_eq (pe_callTy c_strA (by rfl) B.b_str (by decide +kernel) (pa_cons (pe_callTy c_intS (by rfl) B.b_int (by decide +kernel) (pa_cons (pv 0) pa_nil)) pa_nil)) (pv 0) (nomark _)) (pe_callTy c_intS (by rfl) B.b_int (by decide +kernel) (pa_cons (pv 0) pa_nil)) pe_non))))), ?_⟩
    refine g_cut (fun σ' H' => ∃ F : Str, σ' = [some (.str z), some (.int m), some (.str F), none] ∧ tl F = figs (tl z) ∧ H' = H) ?_ ?_
    · have t1 : tl (cutS z none (some 1)) = (tl z).take 1 := tl_cut_take 1
      have t2 : tl (cutS z (some 1) none) = (tl z).drop 1 := tl_cut_drop 1
      walk_at "go"
      refine br_d (fun c => ?_) (fun c => ?_)
      · have c' : (tl z).take 1 = [45] := by rw [← t1, c, tl_minus]
        walk_at "go"
        exact ⟨_, rfl, by rw [t2]; unfold figs; rw [if_pos c'], rfl⟩
      · have c' : ¬ (tl z).take 1 = [45] := fun e => c (ext_tl (by rw [t1, e, tl_minus]))
        walk_at "go"
        exact ⟨_, rfl, by unfold figs; rw [if_neg c'], rfl⟩
    · rintro σ' H' ⟨F, rfl, eF, rfl⟩
      have hF := len_tl F
      have hz2 := len_tl z
      have hF2 : F.length ≤ z.length := by
        rw [hF, hz2, eF]
        unfold figs
        split
        · rw [List.length_drop]; omega
        · exact Nat.le_refl _
      have e1 : ((F.length : Nat) : Int) = ((figs (tl z)).length : Int) := by rw [hF, eF]
      walk_at "go"
      refine br_d (fun c => ?_) (fun c => ?_)
      · have e : iwV m z = .non := by
          unfold iwV
          rw [if_pos (.inl (by rw [← eF, c, tl_none]; rfl))]
        rw [e] at q
        walk_at "go"
        exact q _ (.refl _ _)
      have c0 : (figs (tl z)).isEmpty = false := by
        cases h : figs (tl z) with
        | nil => exact absurd (ext_tl (by rw [eF, h, tl_none])) c
        | cons a r => rfl
      walk_at "go"
      refine br_d (fun c => ?_) (fun c => ?_)
      · have e : iwV m z = .non := by
          unfold iwV
          rw [if_pos (.inr (.inl (by omega)))]
        rw [e] at q
        walk_at "go"
        exact q _ (.refl _ _)
      walk_at "go"
      refine lcS_pure (fun k => .bl (digB k)) (fun _ => true) (by omega) (fun _ => rfl) ?_ ?_ ?_
      · intro k H1 hk o1 M kk
        walk_at "go"
        exact kk _ (.refl _ _)
      · intro k H1 hk hc1 o1 M kk
        walk_at "go"
        rw [sign_ge]
        refine br_d (fun d1 => ?_) (fun d1 => ?_)
        · walk_at "go"
          rw [sign_le]
          refine qb (kk _ (.refl _ _)) ?_
          unfold digB
          rw [decide_eq_true d1, Bool.true_and]
        · walk_at "go"
          refine qb (kk _ (.refl _ _)) ?_
          unfold digB
          rw [decide_eq_false d1, Bool.false_and]
      · intro D H1 hD o1 e4
        have ez : ((tl F).filter fun _ => true).map (fun k => V.bl (digB k)) = ((tl F).map digB).map V.bl := by
          rw [List.filter_eq_self.mpr (fun _ _ => rfl), List.map_map]; rfl
        have ea : ((tl F).map digB).all id = (figs (tl z)).all digB := by rw [List.all_map, eF]; rfl
        rw [ez] at e4
        walk_at "go"
        refine ⟨D, _, rfl, .of e4, ?_⟩
        rw [ea]
        cases ha : (figs (tl z)).all digB with
        | false =>
          have e : iwV m z = .non := by
            unfold iwV
            rw [if_pos (.inr (.inr ha))]
          rw [e] at q
          walk_at "go"
          exact q _ o1
        | true =>
          obtain ⟨i, hi, hib, hzl⟩ := int_text c0 (by omega) hm ha
          have hlog : i.natAbs.log2 < 1920 := by
            by_cases z0 : i.natAbs = 0
            · rw [z0]; decide
            · rw [Nat.log2_lt z0]
              exact Nat.lt_of_lt_of_le hib (Nat.le_of_ble_eq_true (by decide +kernel))
          have e : iwV m z = if tl (Str.ofString (toString i)) = tl z then .int i else .non := by
            unfold iwV
            rw [if_neg (by
              rintro (c | c | c)
              · rw [c0] at c; cases c
              · omega
              · rw [ha] at c; cases c), hi]
          rw [e] at q
          walk_at "go"
          refine g_intS hi (by omega) ?_
          walk_at "go"
          refine g_strI hlog ?_
          walk_at "go"
          refine br_d (fun d1 => ?_) (fun d1 => ?_)
          · walk_at "go"
            refine g_intS hi (by omega) ?_
            rw [if_pos (congrArg tl d1)] at q
            exact q _ o1
          · walk_at "go"
            rw [if_neg (fun h => d1 (ext_tl h))] at q
            exact q _ o1
theorem ok_law_number (T : Txt P w K mg) : DefOk P w K mg base "_law_number" 1 ["word", "most"] spLNum := by
  refine T.d_law_number.ok sc_law_number (fun _ _ _ _ _ _ us hl => match us, hl with | [_, _], _ => rfl) (fun vs H Q E h => ?_) (fun f cdv A outer s H vs Q E hr h => ?_)
  · obtain ⟨z, m, rfl, _⟩ := h
    rfl
  · obtain ⟨z, m, rfl, hz, hm, q⟩ := h
    have hsz := sizeLine_eq
    have B := T.blt
    have hu := hu_of hr
    refine ⟨_, (pss_cons (ps_if (PW.pt (pw_or (pt_cmpR op_eq (pv 0) pe_str (nomark _)) (pw_or (pt_cmpR op_gt (pe_callB c_lenS (by rfl) B.b_len PySem.boot_len (pa_cons (pv 0) pa_nil)) (pv 1) (nomark _)) (pw_or (pt_cmpR (op_neDK (K := K) rfl hr.units) (pe_lc (own := [("sign", 2)]) rfl sc_law_number.nd (pi_str (pv 0)) (blkOk_by (own := [("sign", 2)]) (N := ["word", "most", "sign"]) (sc := defScope s_law_number) (by decide +kernel)) (fun _ _ _ _ _ => (pg_name (i := 2) sc_law_number.nd rfl (by first | exact Or.inl rfl | exact Or.inr rfl))) (fun _ _ _ _ _ => (pts_one (pt_cmpR op_niS (pv 2) pe_str (by rfl)))) (fun _ _ _ _ _ => (pv 2))) (pe_lst pa_nil) (nomark _)) (pw_or1 (PW.pt (pw_and (pt_cmpR op_gt (pe_callB c_lenS (by rfl) B.b_len PySem.boot_len (pa_cons (pv 0) pa_nil)) pe_int (nomark _)) (pw_and1 (pt_cmpR op_eq (pe_ix ix_str (pv 0) pe_int (fun _ _ => rfl)) pe_str (nomark _))))))))))
    (pss_one (ps_ret (pe_un un_neg pe_int)))
    pss_nil)
  (pss_one (ps_ret (pe_callTy c_intS (by rfl) B.b_int (by decide +kernel) (pa_cons (pv 0) pa_nil))))), ?_⟩
    have hz1 := hz.len
    have hz2 := len_tl z
    walk_at "go"
    refine br_d (fun c => ?_) (fun c => ?_)
    · have e : numW m (tl z) = none := by
        rw [c, tl_none]
        rfl
      rw [e] at q
      walk_at "go"
      exact q _ (.refl _ _)
    have c0 : (tl z).isEmpty = false := by
      cases h : tl z with
      | nil => exact absurd (ext_tl (by rw [h, tl_none])) c
      | cons a r => rfl
    walk_at "go"
    refine br_d (fun c => ?_) (fun c => ?_)
    · have e : numW m (tl z) = none := by
        unfold numW
        rw [if_neg]
        rintro ⟨⟨⟨_, h⟩, _⟩, _⟩
        omega
      rw [e] at q
      walk_at "go"
      exact q _ (.refl _ _)
    walk_at "go"
    refine lcS_pure (fun k => .str ⟨#[k]⟩) (fun k => !digB k) (by omega) (fun _ => rfl) ?_ ?_ ?_
    · intro k H1 hk o1 M kk
      walk_at "go"
      rw [sign_in]
      exact kk _ (.refl _ _)
    · intro k H1 hk hc1 o1 M kk
      walk_at "go"
      exact kk _ (.refl _ _)
    · intro D H1 hD o1 e4
      walk_at "go"
      rename_i e2 he2
      have sgs : ∀ l : List Nat, (∀ k ∈ l, k < 128) → DpAll K (upd H1 e2 (.lst [])) (l.map fun k => V.str ⟨#[k]⟩) (l.map fun k => PyData.str ⟨#[k]⟩) ∧ PyData.canLayAll0 (l.map fun k => PyData.str ⟨#[k]⟩) = true ∧ PyData.depthAll (l.map fun k => PyData.str ⟨#[k]⟩) = 0 := fun l => by
        induction l with
        | nil => exact fun _ => ⟨.nil, rfl, rfl⟩
        | cons a r ih =>
          intro h
          obtain ⟨i1, i2, i3⟩ := ih fun k hk => h k (List.mem_cons_of_mem _ hk)
          have ha := h a List.mem_cons_self
          refine ⟨.cons (.str _) i1, ?_, ?_⟩
          · show (PyData.canLay0 (.str ⟨#[a]⟩) && PyData.canLayAll0 (r.map fun k => PyData.str ⟨#[k]⟩)) = true
            rw [i2, Bool.and_true]
            show (#[a] : Array Nat).all (· < 0x110000) = true
            simp
            omega
          · show max (PyData.depth (.str ⟨#[a]⟩)) (PyData.depthAll (r.map fun k => PyData.str ⟨#[k]⟩)) = 0
            rw [i3]
            rfl
      obtain ⟨s1, s2, s3⟩ := sgs ((tl z).filter fun k => !digB k) fun k hk => hz.sg k (List.mem_filter.mp hk).1
      refine g_neD (.lst (.of (upd_new e4 he2)) s1) (.lst (.of upd_same) .nil) (by
        unfold SeqAt.shaped
        rw [Bool.and_eq_true, decide_eq_true_eq]
        refine ⟨s2, ?_⟩
        show PyData.depthAll _ + 1 ≤ 64
        rw [s3]
        decide) rfl ?_
      have ee : PyData.eqv (.list (((tl z).filter fun k => !digB k).map fun k => PyData.str ⟨#[k]⟩)) (.list []) = (tl z).all digB := by
        have e1 : ∀ ds : List PyData, PyData.eqv (.list ds) (.list []) = ds.isEmpty := fun ds => by cases ds <;> rfl
        rw [e1, List.isEmpty_map]
        cases h : (tl z).all digB with
        | true =>
          rw [List.isEmpty_iff, List.filter_eq_nil_iff]
          intro k hk
          rw [List.all_eq_true.mp h k hk]
          decide
        | false =>
          have : ¬ (tl z).filter (fun k => !digB k) = [] := fun e => by
            have : (tl z).all digB = true := List.all_eq_true.mpr fun k hk => by
              have := List.filter_eq_nil_iff.mp e k hk
              simpa using this
            rw [h] at this; cases this
          cases g : (tl z).filter (fun k => !digB k) with
          | nil => exact absurd g this
          | cons a r => rfl
      rw [ee]
      have o2 : Off [] H (upd H1 e2 (.lst [])) := o1.new2 he2
      cases ha : (tl z).all digB with
      | false =>
        have e : numW m (tl z) = none := by
          unfold numW
          rw [if_neg]
          rintro ⟨⟨_, h⟩, _⟩
          rw [ha] at h; cases h
        rw [e] at q
        walk_at "go"
        exact q _ o2
      | true =>
        obtain ⟨k0, r0, e0⟩ : ∃ a r, tl z = a :: r := by
          cases h : tl z with
          | nil => rw [h] at c0; cases c0
          | cons a r => exact ⟨a, r, rfl⟩
        have hint := intText_digits (digB_all.mp ha) (by show tl z ≠ []; rw [e0]; simp) (by omega)
        have fin : (tl z).length = 1 ∨ (tl z).head? ≠ some 48 → Q (.int ((digitsVal (tl z) : Nat) : Int)) (upd H1 e2 (.lst [])) := fun h => by
          have e : numW m (tl z) = some (digitsVal (tl z)) := numW_canon ⟨by rw [e0]; simp, digB_all.mp ha, h⟩ (by omega)
          rw [e] at q
          exact q _ o2
        walk_at "go"
        refine br_d (fun d1 => ?_) (fun d1 => ?_)
        · walk_at "go"
          refine g_ixS (by omega) (by rw [e0]; exact atI_cons0) ?_
          walk_at "go"
          refine br_d (fun d2 => ?_) (fun d2 => ?_)
          · have k48 : k0 = 48 := by
              have := congrArg tl d2
              rw [tl_zero] at this
              exact (List.cons.inj (show [k0] = [48] from this)).1
            have e : numW m (tl z) = none := by
              unfold numW
              rw [if_neg]
              rintro ⟨_, h⟩
              rw [e0, k48] at h
              rcases h with h | h
              · rw [hz2, e0] at d1
                rw [List.length_cons] at h d1
                omega
              · simp at h
            rw [e] at q
            walk_at "go"
            exact q _ o2
          · walk_at "go"
            refine g_intS hint (by omega) ?_
            refine fin (.inr fun h => d2 (ext_tl ?_))
            rw [e0] at h
            rw [tl_zero]
            show [k0] = [48]
            rw [show k0 = 48 by simpa using h]
        · walk_at "go"
          refine g_intS hint (by omega) ?_
          refine fin (.inl ?_)
          rw [hz2] at d1
          rw [e0] at d1 ⊢
          rw [List.length_cons] at d1 ⊢
          omega
end
end SH
end

section
/-! #### the walk's words -/
local macro_rules | `(tactic| walk_at "ne0") => `(tactic| first
  | assumption
  | (refine Ne.symm ?_; assumption))
local macro_rules | `(tactic| walk_at "ne") => `(tactic| first
  | assumption
  | (refine Ne.symm ?_; assumption)
  | (refine' L2.ne_of_none ?gx (by assumption); (case gx => walk_at "hp"))
  | (refine' Ne.symm (L2.ne_of_none ?gx (by assumption)); (case gx => walk_at "hp")))
local macro_rules | `(tactic| walk_at "hp") => `(tactic| first
  | assumption
  | exact L2.upd_same
  | (refine' SH.upd_new ?gh (by assumption); (case gh => walk_at "hp"))
  | (refine' (L2.upd_ne ?gn).trans ?gh; (case gn => walk_at "ne0"); (case gh => walk_at "hp"))
  | (refine' SH.Off.at (by assumption) ?gn ?gh; (case gn => walk_at "nin"); (case gh => walk_at "hp")))
local macro_rules | `(tactic| walk_at "nin") => `(tactic| first
  | exact SH.nin_nil
  | (refine SH.nin_cons ?_ ?_; (· walk_at "ne0"); (· walk_at "nin")))
local macro_rules | `(tactic| walk_at "sq") => `(tactic| first
  | assumption
  | (apply L2.SqL.of; (· walk_at "hp"))
  | (apply L2.SqT.of; (· walk_at "hp"))
  | (refine' SH.seqT_new ?gx (by assumption); (case gx => walk_at "sq"))
  | (refine' SH.seqL_new ?gx (by assumption); (case gx => walk_at "sq"))
  | (refine' SH.Off.seqT (by assumption) ?gx; (case gx => walk_at "sq"))
  | (refine' SH.Off.seqL (by assumption) ?gy ?gx; (case gx => walk_at "sq"); (case gy => walk_at "nin")))
local macro_rules | `(tactic| walk_at "kd") => `(tactic| first
  | assumption | exact SH.KdV.int _ | exact SH.KdV.bl _ | exact SH.KdV.str _ | exact SH.KdV.non
  | (apply SH.KdV.tup; (· walk_at "sq")) | (apply SH.KdV.lst; (· walk_at "sq")))
/-- a way that cannot be -/
local macro_rules | `(tactic| walk_at "no") => `(tactic| (exfalso; first | assumption | omega | contradiction | (simp_all; done)))
/-- one step -/
local macro_rules | `(tactic| walk_at "g1") => `(tactic| with_reducible first
  | refine SH.g_var (by with_unfolding_all rfl) ?_ | refine SH.g_c ?_ | refine SH.g_op ?_ | refine SH.g_un ?_ | refine SH.g_I0 ?_ | refine SH.g_U ?_
  | refine SH.g_eqI ?_ | refine SH.g_neI ?_ | refine SH.g_eqS ?_ | refine SH.g_neS ?_
  | refine SH.g_test ?_ | refine SH.g_B ?_ | refine SH.g_isB ?_ | refine SH.g_and ?_ | refine SH.g_or ?_ | refine SH.g_not ?_ | refine SH.g_andV ?_ | refine SH.g_orV ?_ | refine SH.g_notV ?_ | refine SH.g_ifE ?_ | refine SH.g_chain ?_
  | refine SH.g_nil ?_ | refine SH.g_cons ?_ | refine SH.g_tup ?_ | refine SH.g_lst ?_ | refine SH.g_call ?_ | refine SH.g_fld ?_ | refine SH.g_meth ?_ | refine SH.g_make ?_ | refine SH.g_cb ?_ | refine SH.g_bm ?_
  | refine SH.g_seq ?_ | refine SH.g_asg ?_ | refine SH.g_name ?_ | refine SH.g_drop ?_ | refine SH.g_ret ?_ | refine SH.g_retN ?_ | refine SH.g_next ?_ | refine SH.g_brk ?_ | refine SH.g_cnt ?_ | refine SH.g_ifs ?_ | refine SH.g_par ?_ | refine SH.g_par2 ?_ | refine SH.g_fldS ?_ | refine SH.g_raise ?_ | refine SH.g_rs ?_
  | refine SH.g_sub ?_ | refine SH.g_yes ?_ | refine SH.g_sl ?_ | refine SH.g_noPart ?_ | refine SH.g_part ?_ | refine SH.g_intO ?_ | refine SH.g_dget ?_ | refine SH.g_dput ?_ | refine SH.g_forR ?_ | refine SH.g_forL ?_ | refine SH.g_forT ?_ | refine SH.g_lcR ?_ | refine SH.g_lcL ?_ | refine SH.g_lcT ?_ | refine SH.g_gcons ?_ | refine SH.g_gnil ?_
  | refine SH.br_t ?_ | refine SH.br_f ?_
  | refine SH.g_int ?_ | refine SH.g_abs ?_ | refine SH.g_max2 ?_ | refine SH.g_min2 ?_)
local macro_rules | `(tactic| walk_at "g2") => `(tactic| first
  | walk_at "g1"
  | ((with_reducible refine' SH.g_isiInt ?ga ?gz); (case ga => walk_at "kd"))
  | ((with_reducible refine' SH.g_isiBool ?ga ?gz); (case ga => walk_at "kd"))
  | ((with_reducible refine' SH.g_isiStr ?ga ?gz); (case ga => walk_at "kd"))
  | ((with_reducible refine' SH.g_isiTup ?ga ?gz); (case ga => walk_at "kd"))
  | ((with_reducible refine' SH.g_ixT ?ga ?gb ?gz); (case ga => walk_at "sq"); (case gb => rfl))
  | ((with_reducible refine' SH.g_ixL ?ga ?gb ?gz); (case ga => walk_at "sq"); (case gb => first | rfl | (apply SH.atI_refs; assumption)))
  | ((with_reducible refine SH.br_F ?_ ?_); (· decide +kernel)) | ((with_reducible refine SH.br_T ?_ ?_); (· decide +kernel)) | ((with_reducible refine SH.br_NF ?_ ?_); (· decide +kernel)) | ((with_reducible refine SH.br_NT ?_ ?_); (· decide +kernel))
  | ((with_reducible refine' SH.g_gtup ?ga ?gb ?gz); (case ga => walk_at "sq"); (case gb => rfl))
  | ((with_reducible refine' SH.g_lenT ?ga ?gz); (case ga => walk_at "sq"))
  | ((with_reducible refine' SH.g_lenL ?ga ?gz); (case ga => walk_at "sq"))
  | ((with_reducible refine SH.g_mkT (SH.sz rfl) ?_); intro _ _)
  | ((with_reducible refine SH.g_mkL (SH.sz rfl) ?_); intro _ _)
  | ((with_reducible refine SH.g_dnew ?_); intro _ _)
  | ((with_reducible refine' SH.g_tupL ?ga ?gz); (case ga => walk_at "sq"); intro _ _)
  | ((with_reducible refine' SH.g_lstL ?ga ?gz); (case ga => walk_at "sq"); intro _ _)
  | ((with_reducible refine' SH.g_lstT ?ga ?gz); (case ga => walk_at "sq"); intro _ _)
  | ((with_reducible refine' SH.g_dgR ?ga ?gb ?gz); (case ga => walk_at "hp"); (case gb => walk_at "dv"))
  | ((with_reducible refine' SH.g_fldR ?ga ?gb ?gc ?gd ?gz); (case ga => walk_at "hp"); (case gb => walk_at "cl"); (case gc => walk_at "na"); (case gd => walk_at "fv"))
  | ((with_reducible refine' SH.g_insR ?ga ?gb ?gz); (case ga => walk_at "hp"); (case gb => walk_at "fn"))
  | ((with_reducible refine' SH.g_setL ?ga ?gb ?gz); (case ga => walk_at "hp"); (case gb => rfl))
  | ((with_reducible refine SH.g_I ?_ ?_); (· walk_at "ci"))
  | ((with_reducible refine' SH.g_slL ?ga ?gz); (case ga => walk_at "sq"); intro _ _)
  | ((with_reducible refine' SH.g_cat ?ga ?gb ?gc ?gz); (case ga => walk_at "hp"); (case gb => walk_at "hp"); (case gc => walk_at "ls"); intro _ _))
/-- the side conditions of numbers: a divisor, a factor -/
local macro_rules | `(tactic| walk_at "ci") => `(tactic| first
  | (show _ ≠ _; omega) | (show _ < _; omega) | (constructor <;> omega) | (refine Or.inr ⟨?_, ?_⟩ <;> (show _ < _; omega)) | (refine Or.inl ⟨?_, ?_⟩ <;> (show _ < _; omega)) | (refine ⟨?_, ?_, ?_⟩ <;> decide))
local macro_rules | `(tactic| walk_at "ls") => `(tactic| first | (show _ ≤ _; exact Nat.le_trans (by assumption) (by decide)) | (show _ ≤ _; exact Nat.le_trans (by simp; omega) (by decide : 1000 ≤ sizeLine)))
local macro_rules | `(tactic| walk_at "dv") => `(tactic| rfl)
local macro_rules | `(tactic| walk_at "fv") => `(tactic| rfl)
local macro_rules | `(tactic| walk_at "fn") => `(tactic| rfl)
local macro_rules | `(tactic| walk_at "cl") => `(tactic| assumption)
local macro_rules | `(tactic| walk_at "na") => `(tactic| assumption)
local macro_rules | `(tactic| walk_at "go") => `(tactic| repeat walk_at "g2")
/-- a way is split -/
local macro_rules | `(tactic| walk_at "br") => `(tactic| with_reducible first
  | refine SH.br_d (fun _ => ?_) (fun _ => ?_) | refine SH.br_nd (fun _ => ?_) (fun _ => ?_) | refine SH.br_b (fun _ => ?_) (fun _ => ?_))
/-- all ways -/
local macro_rules | `(tactic| walk_at "all") => `(tactic| repeat' first | walk_at "g2" | (walk_at "br" <;> try (walk_at "no")))
/-- a truth value is the other -/
local macro_rules | `(tactic| walk_at "bq") => `(tactic| first | rfl | (simp_all; done) | (simp_all; omega) | (simp only [decide_eq_true_eq, decide_eq_false_iff_not, Bool.and_eq_true, Bool.or_eq_true] at *; omega))
/-- what was tracked is as it was -/
local macro_rules | `(tactic| walk_at "of") => `(tactic| first
  | assumption
  | exact SH.Off.refl _ _
  | (refine' SH.Off.new2 ?gx (by assumption); (case gx => walk_at "of"))
  | (refine' SH.Off.mut ?gx (by assumption); (case gx => walk_at "of"))
  | (refine' SH.Off.trans' ?gx (by assumption) ?gy; (case gy => (intro _ h; (first | exact h | (simp at h; done) | (simp at h ⊢; simp [h]; done)))); (case gx => walk_at "of")))
/-- texts -/
local macro_rules | `(tactic| walk_at "g2") => `(tactic| first
  | (with_reducible first | refine SH.br_ntt ?_ | refine SH.br_ntf ?_ | refine SH.br_k ?_ | refine SH.br_nk ?_ | refine SH.g_lcS ?_ | refine SH.g_leS ?_ | refine SH.g_niS ?_ | refine SH.g_strS ?_ | refine SH.g_tM1 ?_ | refine SH.g_isStr ?_ | refine SH.g_enL ?_ | refine SH.g_star ?_)
  | ((with_reducible refine SH.g_slS ?_ ?_); (· omega))
  | ((with_reducible refine SH.g_lenS ?_ ?_); (· omega))
  | ((with_reducible refine' SH.g_bml ?ga ?gz); (case ga => walk_at "sq")))
namespace SH
open PySem PySem.Spec PyProof.Rows L2 TL NumText
/-! ### lines and words, plain -/
theorem KdV.off {K : PySem.W.Frag} {S : List Addr} {H H' : Hp} {v : V} {kd : Kd} (hk : KdV K H v kd) (o : Off S H H') (hn : ∀ a o, v = .ref a → H a = some o → a ∉ S) : KdV K H' v kd := by
  cases hk with
  | non => exact .non
  | bl b => exact .bl b
  | int i => exact .int i
  | str z => exact .str z
  | @lst a xs h =>
    refine .lst (xs := xs) ?_
    rcases h with (h | ⟨o', h⟩) | h
    · exact .inl (.inl (o.at (hn a _ rfl h) h))
    · exact .inl (.inr ⟨o', o.frzs _ _ _ h⟩)
    · exact .inr h
  | @tup a xs h => exact .tup (o.seqT h)
  | @dct a kvs h => exact .dct (o.at (hn a _ rfl h) h)
theorem paired_snoc {α β : Type} {F : α → β → Prop} {a : α} {b : β} : ∀ {l : List α} {m : List β}, Paired F l m → F a b → Paired F (l ++ [a]) (m ++ [b])
  | _, _, .nil, h => .cons h .nil
  | _, _, .cons r t, h => .cons r (paired_snoc t h)

theorem spl_sub (S : List Nat) : ∀ (l : List Nat) (k : Nat) (acc : List Nat), ∀ p ∈ spl S k acc l, (∀ c ∈ p, c ∈ acc ∨ c ∈ l) ∧ p.length ≤ acc.length + l.length
  | [], k, acc, p, h => by
    rw [spl_nil, List.mem_singleton] at h
    subst h
    exact ⟨fun c hc => .inl hc, Nat.le_refl _⟩
  | a :: r, 0, acc, p, h => by
    have h' : p ∈ (if pre S (a :: r) = true then acc :: spl S (S.length - 1) [] r else spl S 0 (acc ++ [a]) r) := h
    split at h'
    · rcases List.mem_cons.mp h' with rfl | h'
      · exact ⟨fun c hc => .inl hc, by simp⟩
      · obtain ⟨h1, h2⟩ := spl_sub S r _ _ p h'
        refine ⟨fun c hc => ?_, by simp at h2 ⊢; omega⟩
        rcases h1 c hc with z | z
        · cases z
        · exact .inr (List.mem_cons_of_mem _ z)
    · obtain ⟨h1, h2⟩ := spl_sub S r _ _ p h'
      refine ⟨fun c hc => ?_, by simp at h2 ⊢; omega⟩
      rcases h1 c hc with z | z
      · rcases List.mem_append.mp z with z | z
        · exact .inl z
        · rw [List.mem_singleton.mp z]
          exact .inr List.mem_cons_self
      · exact .inr (List.mem_cons_of_mem _ z)
  | a :: r, k + 1, acc, p, h => by
    have h' : p ∈ spl S k acc r := h
    obtain ⟨h1, h2⟩ := spl_sub S r _ _ p h'
    refine ⟨fun c hc => ?_, by simp at h2 ⊢; omega⟩
    rcases h1 c hc with z | z
    · exact .inl z
    · exact .inr (List.mem_cons_of_mem _ z)
theorem spl_ne (S : List Nat) : ∀ (l : List Nat) (k : Nat) (acc : List Nat), spl S k acc l ≠ []
  | [], k, acc => by rw [spl_nil]; simp
  | a :: r, 0, acc => by
    show (if pre S (a :: r) = true then acc :: spl S (S.length - 1) [] r else spl S 0 (acc ++ [a]) r) ≠ []
    split
    · simp
    · exact spl_ne S r _ _
  | a :: r, k + 1, acc => spl_ne S r k acc
theorem split_ok {z y : Str} {n : Nat} (hz : PlT z n) (hy : tl y ≠ []) (hk : y.cps.all (· < 256) = true) : (∀ w ∈ Txt.split z y, PlT w n) ∧ Txt.split z y ≠ [] := by
  have e := split_spl z y hy (kind_ok hk)
  refine ⟨fun w hw => ?_, fun h => ?_⟩
  · have hm : tl w ∈ spl (tl y) 0 [] (tl z) := by
      rw [← e]
      exact List.mem_map_of_mem hw
    obtain ⟨h1, h2⟩ := spl_sub _ _ _ _ _ hm
    have h3 := hz.len
    rw [len_tl] at h3
    refine ⟨by rw [len_tl]; rw [List.length_nil, Nat.zero_add] at h2; omega, fun c hc => ?_⟩
    rcases h1 c hc with q | q
    · cases q
    · exact hz.sg c q
  · rw [h] at e
    exact spl_ne _ _ _ _ e.symm
theorem nl_ok : tl ("\n" : Str) ≠ [] ∧ ("\n" : Str).cps.all (· < 256) = true ∧ (("\n" : Str).length == 0) = false := ⟨by rw [show tl ("\n" : Str) = [10] by kernel_rfl]; simp, by kernel_rfl, by kernel_rfl⟩
theorem sp_ok : tl (" " : Str) ≠ [] ∧ (" " : Str).cps.all (· < 256) = true ∧ ((" " : Str).length == 0) = false := ⟨by rw [show tl (" " : Str) = [32] by kernel_rfl]; simp, by kernel_rfl, by kernel_rfl⟩
def linesS (z : Str) : List Str := if z = "" then [] else Txt.split z "\n"
def wordsS (l : Str) : List Str := Txt.split l " "
/-- the values that a line's words make -/
def stepL (l : Str) : List V := match wordsS l with
  | [] => []
  | w :: ws => .str w :: ws.map (iwV 9)
def okL (l : Str) : Bool := stepB (stepL l) 5
/-- the first line that is none of a step -/
def badAt : List Str → Option Nat
  | [] => none
  | l :: ls => if okL l = true then (badAt ls).map (· + 1) else some 0
theorem badAt_drop {k : Nat} : ∀ {ls : List Str} {i : Nat}, (∀ j, j < i → ∀ l, ls[j]? = some l → okL l = true) → badAt ls = (badAt (ls.drop i)).map (· + i) ∧ True
  | ls, 0, _ => ⟨by rw [List.drop_zero]; cases badAt ls <;> rfl, trivial⟩
  | [], i + 1, _ => ⟨by simp [badAt], trivial⟩
  | l :: ls, i + 1, h => by
    refine ⟨?_, trivial⟩
    have h0 : okL l = true := h 0 (by omega) l rfl
    have ih := (badAt_drop (k := k) (ls := ls) (i := i) fun j hj l' hl => h (j + 1) (by omega) l' hl).1
    show (if okL l = true then (badAt ls).map (· + 1) else some 0) = _
    rw [if_pos h0, ih, List.drop_succ_cons]
    cases badAt (ls.drop i) with
    | none => rfl
    | some a => simp; omega
theorem lines_ok {z : Str} {n : Nat} (hz : PlT z n) : ∀ l ∈ linesS z, PlT l n := by
  unfold linesS
  split
  · simp
  · exact (split_ok hz nl_ok.1 nl_ok.2.1).1
theorem words_ok {l : Str} {n : Nat} (hz : PlT l n) : (∀ w ∈ wordsS l, PlT w n) ∧ wordsS l ≠ [] := split_ok hz sp_ok.1 sp_ok.2.1
theorem lines_len (z : Str) : (linesS z).length ≤ z.length + 2 := by
  unfold linesS
  split
  · simp
  · exact PyProof.Rows.split_le z "\n"
theorem words_len (z : Str) : (wordsS z).length ≤ z.length + 2 := PyProof.Rows.split_le z " "
theorem str_flat {w : Str} {n : Nat} (h : PlT w n) : flB (.str w) = true := by
  show w.cps.all (· < 0x110000) = true
  rw [Array.all_eq_true_iff_forall_mem]
  intro c hc
  have := h.sg c (by simpa [tl] using hc)
  simp
  omega
theorem step_flat {l : Str} {n : Nat} (h : PlT l n) : (stepL l).all flB = true := by
  unfold stepL
  have hw := (words_ok h).1
  split
  · rfl
  · rename_i w ws e
    rw [List.all_cons, str_flat (hw w (by rw [e]; simp)), Bool.true_and, List.all_map, List.all_eq_true]
    intro x _
    exact iw_flat 9 x
def spLines (K : PySem.W.Frag) : Sp := fun vs H Q E => ∃ v, vs = [v] ∧ ((∃ z, v = .str z ∧ z.length ≤ 200000 ∧ ∀ H' p, H' p = some (.lst ((linesS z).map V.str)) → H p = none → Off [] H H' → Q (.ref p) H') ∨
  ((∃ z, v = .str z ∧ ¬ (z.length : Int) ≤ 200000 ∧ z.length ≤ 1000000 ∧ RaiseW (He.ga K "BadText") "line" (.int 0) H E) ∨ (∃ kd, KdV K H v kd ∧ kd ≠ .str ∧ RaiseW (He.ga K "BadText") "line" (.int 0) H E)))
/-- what reading a course comes to -/
def stepD (l : Str) : PyData := .tuple ((stepL l).map dat2)
def spReadC (K : PySem.W.Frag) : Sp := fun vs H Q E => ∃ v, vs = [v] ∧ ((∃ z, v = .str z ∧ PlT z 4000 ∧ (badAt (linesS z) = none → ∀ H' p xs, H' p = some (.tup xs) → Paired (fun x l => ∃ q, x = V.ref q ∧ H' q = some (.tup (stepL l))) xs (linesS z) → Off [] H H' → Q (.ref p) H') ∧
    (∀ k, badAt (linesS z) = some k → ∀ H', Off [] H H' → RaiseW (He.ga K "BadText") "line" (.int ((k : Nat) + 1 : Int)) H' E)) ∨
  ((∃ z, v = .str z ∧ ¬ (z.length : Int) ≤ 200000 ∧ z.length ≤ 1000000 ∧ ∀ H', Off [] H H' → RaiseW (He.ga K "BadText") "line" (.int 0) H' E) ∨ (∃ kd, KdV K H v kd ∧ kd ≠ .str ∧ ∀ H', Off [] H H' → RaiseW (He.ga K "BadText") "line" (.int 0) H' E)))
section
variable {P : Program} {w : World} {K : PySem.W.Frag} {mg : Str → Option Value} {base : Heap}
theorem ok_lines_of (T : Txt P w K mg) : DefOk P w K mg base "lines_of" 1 ["text"] (spLines K) := by
  refine T.d_lines_of.ok sc_lines_of (fun _ _ _ _ _ _ us hl => match us, hl with | [_], _ => rfl) (fun vs H Q E h => ?_) (fun f cdv A outer s H vs Q E hr h => ?_)
  · obtain ⟨v, rfl, _⟩ := h
    rfl
  · obtain ⟨v, rfl, h⟩ := h
    have hsz := sizeLine_eq
    have B := T.blt
    have hu := hu_of hr
    have X_BadText := T.x_BadText
    have c_MOST_SIGNS := T.c_MOST_SIGNS
    refine ⟨_, (pss_cons (ps_if (PW.pt (pw_or (pt_not (pt_val (pe_callB (call_isiK' (K := K) rfl) (by rfl) B.b_isinstance (by decide +kernel) (pa_cons (pv 0) (pa_cons (pe_bltn (v := .ty "str") rfl B.b_str (by decide +kernel) rfl) pa_nil))) (by intro _; rfl))) (pw_or1 (pt_cmpR op_gt (pe_callB c_lenS (by rfl) B.b_len PySem.boot_len (pa_cons (pv 0) pa_nil)) (pe_cint c_MOST_SIGNS) (nomark _)))))
    (pss_one (ps_raiseXs rfl X_BadText (hr.mono (by decide)) (L2N.takes_of rfl rfl rfl rfl) (pa_cons pe_int pa_nil)))
    pss_nil)
  (pss_one (ps_ret (pe_ifExp (pt_cmpR op_eq (pv 0) pe_str (nomark _)) (pe_lst pa_nil) (pe_splitS (pv 0) pe_str))))), ?_⟩
    rcases h with ⟨z, rfl, hz, q⟩ | ⟨z, rfl, hz, hz2, q⟩ | ⟨kd, hk, nk, q⟩
    · have hk : KdV K H (.str z) .str := .str z
      walk_at "go"
      refine br_F (by omega) ?_
      walk_at "go"
      refine br_d (fun c => ?_) (fun c => ?_)
      · walk_at "go"
        rename_i p hp
        refine q _ p ?_ hp (.new hp)
        unfold linesS
        rw [if_pos c]
        exact upd_same
      · walk_at "go"
        refine g_split nl_ok.2.2 (by omega) fun p hp => ?_
        refine q _ p ?_ hp (.new hp)
        unfold linesS
        rw [if_neg c]
        exact upd_same
    · have hk : KdV K H (.str z) .str := .str z
      walk_at "go"
      refine br_T (by omega) ?_
      walk_at "go"
      exact fun d hd => q d hd
    · have ek : (kd == Kd.str) = false := by cases kd <;> first | rfl | exact absurd rfl nk
      walk_at "go"
      rw [ek]
      walk_at "go"
      exact fun d hd => q d hd
theorem okL_read_course (T : Txt P w K mg) : DefL P w K mg base "read_course" 4 ["text"] (spReadC K) := by
  refine T.d_read_course.okL sc_read_course (fun _ _ _ _ _ _ us hl => match us, hl with | [_], _ => rfl) (fun vs H Q E h => ?_) (fun f cdv A outer s H vs Q E hr h => ?_)
  · obtain ⟨v, rfl, _⟩ := h
    rfl
  · obtain ⟨v, rfl, h⟩ := h
    have hsz := sizeLine_eq
    have ok_is_season_step := fun {base : Heap} (T : Txt P w K mg) => SH.okX_is_season_step (base := base) T
    have B := T.blt
    have hu := hu_of hr
    have G_lines_of := ok_lines_of (base := base) T
    have X_BadText := T.x_BadText
    have G_is_season_step := ok_is_season_step (base := base) T
    have c_MOST_STEPS := T.c_MOST_STEPS
    have G_integer_of := ok_integer_of (base := base) T
    have c_MOST_BOATS := T.c_MOST_BOATS
    have c_MOST_FIGURES := T.c_MOST_FIGURES
    refine ⟨_, (pss_cons (ps_set (i := 1) sc_read_course.nd rfl (by first | exact Or.inl rfl | exact Or.inr rfl) (pe_lst pa_nil))
  (pss_cons (ps_for (passes_of rfl) rfl (pi_enumK (K := K) rfl (by rfl) B.b_enumerate (pa_cons (pe_df G_lines_of (hr.mono (by decide)) (L2N.passes_call (L2N.takes_of rfl rfl rfl rfl) fun _ _ _ _ z => z) (pa_cons (pv 0) pa_nil)) pa_nil)) (pg_tupK (K := K) (n := 2) rfl rfl (pgs_cons (pg_name (i := 2) sc_read_course.nd rfl (by first | exact Or.inl rfl | exact Or.inr rfl)) (pgs_cons (pg_name (i := 3) sc_read_course.nd rfl (by first | exact Or.inl rfl | exact Or.inr rfl)) pgs_nil)))
    (pss_cons (ps_set (i := 4) sc_read_course.nd rfl (by first | exact Or.inl rfl | exact Or.inr rfl) (pe_splitS (pv 3) pe_str))
  (pss_cons (ps_set (i := 5) sc_read_course.nd rfl (by first | exact Or.inl rfl | exact Or.inr rfl) (pe_tup (pa_cons (pe_ix (ix_listK (K := K) rfl) (pv 4) pe_int (fun _ _ => rfl)) (pa_starK (K := K) rfl (pe_lc (own := [("word", 6)]) rfl sc_read_course.nd (pi_listK (K := K) rfl (pe_slice (sl_listK (K := K) rfl) (pv 4) (po_some pe_int) po_none)) (blkOk_by (own := [("word", 6)]) (N := ["text", "found", "at", "line", "words", "step", "word"]) (sc := defScope s_read_course) (by decide +kernel)) (fun _ _ _ _ _ => (pg_name (i := 6) sc_read_course.nd rfl (by first | exact Or.inl rfl | exact Or.inr rfl))) (fun _ _ _ _ _ => pts_nil) (fun _ _ _ _ _ => (pe_df G_integer_of (hr.mono (by decide)) passN (pa_cons (pv 6) (pa_cons (pe_cint c_MOST_FIGURES) pa_nil))))) pa_nil))))
  (pss_cons (ps_if (PW.pt (pw_or (pt_not (pt_val (pe_df G_is_season_step (hr.mono (by decide)) (L2N.passes_call (L2N.takes_of rfl rfl rfl rfl) fun _ _ _ _ z => z) (pa_cons (pv 5) (pa_cons (pe_cint c_MOST_BOATS) pa_nil))) (by intro _; rfl))) (pw_or1 (pt_cmpR op_ge (pv 2) (pe_cint c_MOST_STEPS) (nomark _)))))
    (pss_one (ps_raiseXs rfl X_BadText (hr.mono (by decide)) (L2N.takes_of rfl rfl rfl rfl) (pa_cons (pe_op op_add (pv 2) pe_int) pa_nil)))
    pss_nil)
  (pss_one (ps_expr (pe_bmK (K := K) rfl PySem.F.plainAttrs_list PySem.F.slot_list_append PySem.F.type_list_append mt_append (pv 1) (pa_cons (pv 5) pa_nil))))))))
  (pss_one (ps_ret (pe_callTy (c_tupK (K := K) rfl) (by rfl) B.b_tuple (by decide +kernel) (pa_cons (pv 1) pa_nil)))))), ?_⟩
    walk_at "go"
    rename_i D hD
    rcases h with ⟨z, rfl, hz, q1, q2⟩ | ⟨z, rfl, hz, hz2, q⟩ | ⟨kd, hk, nk, q⟩
    rotate_left 1
    · exact ⟨_, rfl, .inr (.inl ⟨z, rfl, hz, hz2, fun d hd => q _ (.new hD) d hd⟩)⟩
    · exact ⟨_, rfl, .inr (.inr ⟨kd, hk.off (.new hD (S := [])) (fun _ _ _ _ => nin_nil), nk, fun d hd => q _ (.new hD) d hd⟩)⟩
    refine ⟨_, rfl, .inl ⟨z, rfl, by have := hz.len; omega, fun H1 p1 e1 hp1 o1 => ?_⟩⟩
    have hll := lines_len z
    have hzl := hz.len
    have nDp : D ≠ p1 := fun w => by rw [← w, upd_same] at hp1; cases hp1
    have eD : H1 D = some (.lst []) := o1.at nin_nil upd_same
    have oH : Off [] H H1 := (Off.new hD).trans o1
    clear o1 hp1
    walk_at "go"
    refine enL_mk (fun i σ H2 => ∃ a b c d rs, σ = [some (.str z), some (.ref D), a, b, c, d, none] ∧ H2 D = some (.lst rs) ∧ Paired (fun x l => ∃ q, x = V.ref q ∧ H2 q = some (.tup (stepL l))) rs ((linesS z).take i) ∧ (∀ j, j < i → ∀ l, (linesS z)[j]? = some l → okL l = true) ∧
      H2 p1 = some (.lst ((linesS z).map V.str)) ∧ Off [] H H2) (.of e1) ⟨none, none, none, none, [], rfl, eD, .nil, fun j hj => by omega, e1, oH⟩ (fun i σ H2 hi hP => ?_) (fun i x T0 σ H2 he hP hT => ?_) (fun σ H2 hP => ?_)
    · obtain ⟨_, _, _, _, _, _, _, _, _, e, _⟩ := hP
      exact .of e
    · obtain ⟨a, b, c, d, rs, rfl, r1, r2, r3, r4, oo⟩ := hP
      obtain ⟨l, hl, rfl⟩ : ∃ l, (linesS z)[i]? = some l ∧ V.str l = x := by simpa using he
      have il : i < (linesS z).length := (List.getElem?_eq_some_iff.mp hl).1
      have pl := lines_ok hz l (List.mem_of_getElem? hl)
      obtain ⟨wk, wne⟩ := words_ok pl
      obtain ⟨w0, ws, ew⟩ : ∃ w0 ws, wordsS l = w0 :: ws := by
        cases h : wordsS l with
        | nil => exact absurd h wne
        | cons a r => exact ⟨a, r, rfl⟩
      have es : stepL l = .str w0 :: ws.map (iwV 9) := by unfold stepL; rw [ew]
      have hwl := words_len l
      have hpl := pl.len
      rw [ew, List.length_cons] at hwl
      have hTD : D ≠ T0 := ne_of_none r1 hT
      walk_at "go"
      refine g_split sp_ok.2.2 (by omega) fun W hW => ?_
      rw [show Txt.split l " " = w0 :: ws from ew] at *
      walk_at "go"
      refine g_ixL (.of upd_same) atI_cons0 ?_
      walk_at "go"
      rename_i W2 hW2
      rw [show cutV (List.map V.str (w0 :: ws)) (some 1) none = ws.map V.str from (cutV_drop (n := 1)).trans rfl] at *
      refine lcL_pure (fun x => match x with | .str w => iwV 9 w | y => y) (fun _ => true) (.of upd_same) (by rw [List.length_map]; omega) (fun _ => rfl) ?_ ?_ ?_
      · intro x H3 hx o3 M kk
        walk_at "go"
        exact kk _ (.refl _ _)
      · intro x H3 hx hc1 o3 M kk
        obtain ⟨w1, hw1, rfl⟩ := List.mem_map.mp hx
        have := (wk w1 (by rw [ew]; simp [hw1])).len
        walk_at "go"
        exact ⟨w1, 9, rfl, by omega, by omega, fun H4 o4 => kk _ o4⟩
      · intro D2 H3 hD2 o3 e4
        have ez : ((ws.map V.str).filter fun _ => true).map (fun x => match x with | .str w => iwV 9 w | y => y) = ws.map (iwV 9) := by
          rw [List.filter_eq_self.mpr (fun _ _ => rfl), List.map_map]; rfl
        rw [ez] at e4
        have o23 : Off [] H2 H3 := (((Off.new hT).new2 hW).new2 hW2).trans o3
        clear o3 hD2 hW hW2
        refine ⟨D2, _, rfl, .inr (.of e4), ?_⟩
        walk_at "go"
        refine ⟨by rw [List.length_cons, List.length_append, List.length_map]; simp; omega, fun ps hps => ?_⟩
        rw [List.append_nil, ← es]
        walk_at "go"
        have et : (upd H3 ps (.tup (stepL l))) ps = some (.tup (stepL l)) := upd_same
        have o24 : Off [] H2 (upd H3 ps (.tup (stepL l))) := o23.new2 hps
        generalize upd H3 ps (.tup (stepL l)) = H4 at *
        clear o23 e4 hps
        refine ⟨.ref ps, 5, rfl, .inr (.inl ⟨ps, _, rfl, .of et, step_flat pl, fun H5 o5 => ?_⟩)⟩
        have o25 := o24.trans o5
        have et5 := o5.tups _ _ et
        cases ho : okL l with
        | false =>
          rw [show stepB (stepL l) ((5 : Nat) : Int) = false from ho]
          walk_at "go"
          have eb : badAt (linesS z) = some i := by
            rw [(badAt_drop (k := 0) r3).1, List.drop_eq_getElem_cons il]
            have e7 : (linesS z)[i]'il = l := (List.getElem?_eq_some_iff.mp hl).2
            rw [e7]
            show Option.map _ (if okL l = true then _ else some 0) = _
            rw [ho]
            simp
          exact fun dd hd => q2 i eb H5 (oo.trans o25) dd hd
        | true =>
          rw [show stepB (stepL l) ((5 : Nat) : Int) = true from ho]
          walk_at "go"
          refine br_F (by omega) ?_
          walk_at "go"
          have r1' := o25.at nin_nil r1
          have hls : rs.length = min i (linesS z).length := by
            have := Paired.length r2
            rw [List.length_take] at this
            exact this
          refine g_app' r1' (by omega) fun H6 e6 o6 => ?_
          walk_at "go"
          have oX : Off [D] H2 H6 := (o25.mono (by simp)).trans o6
          refine ⟨_, _, _, _, rs ++ [.ref ps], rfl, e6, ?_, fun j hj l' hl' => ?_, oX.at (by simpa using nDp.symm) r4, (oo.trans o25).mutA o6 hD⟩
          · rw [List.take_add_one, hl]
            refine paired_snoc (Paired.mapP r2 fun x l w => ?_) ⟨ps, rfl, o6.tups _ _ et5⟩
            obtain ⟨q, e, h⟩ := w
            exact ⟨q, e, oX.tups _ _ h⟩
          · by_cases h : j < i
            · exact r3 j h l' hl'
            · have : j = i := by omega
              subst this
              rw [hl] at hl'
              cases hl'
              exact ho
    · obtain ⟨a, b, c, d, rs, rfl, r1, r2, r3, r4, oo⟩ := hP
      rw [List.length_map] at r2 r3
      rw [List.take_length] at r2
      walk_at "go"
      rename_i p2 hp2
      have eb : badAt (linesS z) = none := by
        rw [(badAt_drop (k := 0) r3).1, List.drop_length]
        rfl
      refine q1 eb _ p2 rs upd_same (Paired.mapP r2 fun x l w => ?_) (oo.new2 hp2)
      obtain ⟨q, e, h⟩ := w
      exact ⟨q, e, upd_new h hp2⟩
theorem ok_read_course (T : Txt P w K mg) : DefOk P w K mg base "read_course" 4 ["text"] (spReadC K) := (okL_read_course T).ok
end
end SH
end

section
/-! #### the walk's words -/
local macro_rules | `(tactic| walk_at "ne0") => `(tactic| first
  | assumption
  | (refine Ne.symm ?_; assumption))
local macro_rules | `(tactic| walk_at "ne") => `(tactic| first
  | assumption
  | (refine Ne.symm ?_; assumption)
  | (refine' L2.ne_of_none ?gx (by assumption); (case gx => walk_at "hp"))
  | (refine' Ne.symm (L2.ne_of_none ?gx (by assumption)); (case gx => walk_at "hp")))
local macro_rules | `(tactic| walk_at "hp") => `(tactic| first
  | assumption
  | exact L2.upd_same
  | (refine' SH.upd_new ?gh (by assumption); (case gh => walk_at "hp"))
  | (refine' (L2.upd_ne ?gn).trans ?gh; (case gn => walk_at "ne0"); (case gh => walk_at "hp"))
  | (refine' SH.Off.at (by assumption) ?gn ?gh; (case gn => walk_at "nin"); (case gh => walk_at "hp")))
local macro_rules | `(tactic| walk_at "nin") => `(tactic| first
  | exact SH.nin_nil
  | (refine SH.nin_cons ?_ ?_; (· walk_at "ne0"); (· walk_at "nin")))
local macro_rules | `(tactic| walk_at "sq") => `(tactic| first
  | assumption
  | (apply L2.SqL.of; (· walk_at "hp"))
  | (apply L2.SqT.of; (· walk_at "hp"))
  | (refine' SH.seqT_new ?gx (by assumption); (case gx => walk_at "sq"))
  | (refine' SH.seqL_new ?gx (by assumption); (case gx => walk_at "sq"))
  | (refine' SH.Off.seqT (by assumption) ?gx; (case gx => walk_at "sq"))
  | (refine' SH.Off.seqL (by assumption) ?gy ?gx; (case gx => walk_at "sq"); (case gy => walk_at "nin")))
local macro_rules | `(tactic| walk_at "kd") => `(tactic| first
  | assumption | exact SH.KdV.int _ | exact SH.KdV.bl _ | exact SH.KdV.str _ | exact SH.KdV.non
  | (apply SH.KdV.tup; (· walk_at "sq")) | (apply SH.KdV.lst; (· walk_at "sq")))
/-- a way that cannot be -/
local macro_rules | `(tactic| walk_at "no") => `(tactic| (exfalso; first | assumption | omega | contradiction | (simp_all; done)))
/-- one step -/
local macro_rules | `(tactic| walk_at "g1") => `(tactic| with_reducible first
  | refine SH.g_var (by with_unfolding_all rfl) ?_ | refine SH.g_c ?_ | refine SH.g_op ?_ | refine SH.g_un ?_ | refine SH.g_I0 ?_ | refine SH.g_U ?_
  | refine SH.g_eqI ?_ | refine SH.g_neI ?_ | refine SH.g_eqS ?_ | refine SH.g_neS ?_
  | refine SH.g_test ?_ | refine SH.g_B ?_ | refine SH.g_isB ?_ | refine SH.g_and ?_ | refine SH.g_or ?_ | refine SH.g_not ?_ | refine SH.g_andV ?_ | refine SH.g_orV ?_ | refine SH.g_notV ?_ | refine SH.g_ifE ?_ | refine SH.g_chain ?_
  | refine SH.g_nil ?_ | refine SH.g_cons ?_ | refine SH.g_tup ?_ | refine SH.g_lst ?_ | refine SH.g_call ?_ | refine SH.g_fld ?_ | refine SH.g_meth ?_ | refine SH.g_make ?_ | refine SH.g_cb ?_ | refine SH.g_bm ?_
  | refine SH.g_seq ?_ | refine SH.g_asg ?_ | refine SH.g_name ?_ | refine SH.g_drop ?_ | refine SH.g_ret ?_ | refine SH.g_retN ?_ | refine SH.g_next ?_ | refine SH.g_brk ?_ | refine SH.g_cnt ?_ | refine SH.g_ifs ?_ | refine SH.g_par ?_ | refine SH.g_par2 ?_ | refine SH.g_fldS ?_ | refine SH.g_raise ?_ | refine SH.g_rs ?_
  | refine SH.g_sub ?_ | refine SH.g_yes ?_ | refine SH.g_sl ?_ | refine SH.g_noPart ?_ | refine SH.g_part ?_ | refine SH.g_intO ?_ | refine SH.g_dget ?_ | refine SH.g_dput ?_ | refine SH.g_forR ?_ | refine SH.g_forL ?_ | refine SH.g_forT ?_ | refine SH.g_lcR ?_ | refine SH.g_lcL ?_ | refine SH.g_lcT ?_ | refine SH.g_gcons ?_ | refine SH.g_gnil ?_
  | refine SH.br_t ?_ | refine SH.br_f ?_
  | refine SH.g_int ?_ | refine SH.g_abs ?_ | refine SH.g_max2 ?_ | refine SH.g_min2 ?_)
local macro_rules | `(tactic| walk_at "g2") => `(tactic| first
  | walk_at "g1"
  | ((with_reducible refine' SH.g_isiInt ?ga ?gz); (case ga => walk_at "kd"))
  | ((with_reducible refine' SH.g_isiBool ?ga ?gz); (case ga => walk_at "kd"))
  | ((with_reducible refine' SH.g_isiStr ?ga ?gz); (case ga => walk_at "kd"))
  | ((with_reducible refine' SH.g_isiTup ?ga ?gz); (case ga => walk_at "kd"))
  | ((with_reducible refine' SH.g_ixT ?ga ?gb ?gz); (case ga => walk_at "sq"); (case gb => rfl))
  | ((with_reducible refine' SH.g_ixL ?ga ?gb ?gz); (case ga => walk_at "sq"); (case gb => first | rfl | (apply SH.atI_refs; assumption)))
  | ((with_reducible refine SH.br_F ?_ ?_); (· decide +kernel)) | ((with_reducible refine SH.br_T ?_ ?_); (· decide +kernel)) | ((with_reducible refine SH.br_NF ?_ ?_); (· decide +kernel)) | ((with_reducible refine SH.br_NT ?_ ?_); (· decide +kernel))
  | ((with_reducible refine' SH.g_gtup ?ga ?gb ?gz); (case ga => walk_at "sq"); (case gb => rfl))
  | ((with_reducible refine' SH.g_lenT ?ga ?gz); (case ga => walk_at "sq"))
  | ((with_reducible refine' SH.g_lenL ?ga ?gz); (case ga => walk_at "sq"))
  | ((with_reducible refine SH.g_mkT (SH.sz rfl) ?_); intro _ _)
  | ((with_reducible refine SH.g_mkL (SH.sz rfl) ?_); intro _ _)
  | ((with_reducible refine SH.g_dnew ?_); intro _ _)
  | ((with_reducible refine' SH.g_tupL ?ga ?gz); (case ga => walk_at "sq"); intro _ _)
  | ((with_reducible refine' SH.g_lstL ?ga ?gz); (case ga => walk_at "sq"); intro _ _)
  | ((with_reducible refine' SH.g_lstT ?ga ?gz); (case ga => walk_at "sq"); intro _ _)
  | ((with_reducible refine' SH.g_dgR ?ga ?gb ?gz); (case ga => walk_at "hp"); (case gb => walk_at "dv"))
  | ((with_reducible refine' SH.g_fldR ?ga ?gb ?gc ?gd ?gz); (case ga => walk_at "hp"); (case gb => walk_at "cl"); (case gc => walk_at "na"); (case gd => walk_at "fv"))
  | ((with_reducible refine' SH.g_insR ?ga ?gb ?gz); (case ga => walk_at "hp"); (case gb => walk_at "fn"))
  | ((with_reducible refine' SH.g_setL ?ga ?gb ?gz); (case ga => walk_at "hp"); (case gb => rfl))
  | ((with_reducible refine SH.g_I ?_ ?_); (· walk_at "ci"))
  | ((with_reducible refine' SH.g_slL ?ga ?gz); (case ga => walk_at "sq"); intro _ _)
  | ((with_reducible refine' SH.g_cat ?ga ?gb ?gc ?gz); (case ga => walk_at "hp"); (case gb => walk_at "hp"); (case gc => walk_at "ls"); intro _ _))
/-- the side conditions of numbers: a divisor, a factor -/
local macro_rules | `(tactic| walk_at "ci") => `(tactic| first
  | (show _ ≠ _; omega) | (show _ < _; omega) | (constructor <;> omega) | (refine Or.inr ⟨?_, ?_⟩ <;> (show _ < _; omega)) | (refine Or.inl ⟨?_, ?_⟩ <;> (show _ < _; omega)) | (refine ⟨?_, ?_, ?_⟩ <;> decide))
local macro_rules | `(tactic| walk_at "ls") => `(tactic| first | (show _ ≤ _; exact Nat.le_trans (by assumption) (by decide)) | (show _ ≤ _; exact Nat.le_trans (by simp; omega) (by decide : 1000 ≤ sizeLine)))
local macro_rules | `(tactic| walk_at "dv") => `(tactic| rfl)
local macro_rules | `(tactic| walk_at "fv") => `(tactic| rfl)
local macro_rules | `(tactic| walk_at "fn") => `(tactic| rfl)
local macro_rules | `(tactic| walk_at "cl") => `(tactic| assumption)
local macro_rules | `(tactic| walk_at "na") => `(tactic| assumption)
local macro_rules | `(tactic| walk_at "go") => `(tactic| repeat walk_at "g2")
/-- a way is split -/
local macro_rules | `(tactic| walk_at "br") => `(tactic| with_reducible first
  | refine SH.br_d (fun _ => ?_) (fun _ => ?_) | refine SH.br_nd (fun _ => ?_) (fun _ => ?_) | refine SH.br_b (fun _ => ?_) (fun _ => ?_))
/-- all ways -/
local macro_rules | `(tactic| walk_at "all") => `(tactic| repeat' first | walk_at "g2" | (walk_at "br" <;> try (walk_at "no")))
/-- a truth value is the other -/
local macro_rules | `(tactic| walk_at "bq") => `(tactic| first | rfl | (simp_all; done) | (simp_all; omega) | (simp only [decide_eq_true_eq, decide_eq_false_iff_not, Bool.and_eq_true, Bool.or_eq_true] at *; omega))
/-- what was tracked is as it was -/
local macro_rules | `(tactic| walk_at "of") => `(tactic| first
  | assumption
  | exact SH.Off.refl _ _
  | (refine' SH.Off.new2 ?gx (by assumption); (case gx => walk_at "of"))
  | (refine' SH.Off.mut ?gx (by assumption); (case gx => walk_at "of"))
  | (refine' SH.Off.trans' ?gx (by assumption) ?gy; (case gy => (intro _ h; (first | exact h | (simp at h; done) | (simp at h ⊢; simp [h]; done)))); (case gx => walk_at "of")))
namespace SH
open PySem PySem.Spec PyProof.Rows L2 TL NumText
/-! ### fractions as text, plain -/
def fracZ (p q : Int) : Bool := decide (1 ≤ q) && decide (Nat.gcd p.natAbs q.toNat = 1)
def showZ (i : Int) : Str := toString i
def wrF (p q : Int) : Str := if q = 1 then showZ p else showZ p ++ ("/" : Str) ++ showZ q
theorem tl_show_nat (n : Nat) : tl (showZ (n : Int)) = numL n := tl_num n
theorem tl_show_neg {n : Nat} (h : 0 < n) : tl (showZ (-(n : Int))) = 45 :: numL n := by
  have e : showZ (-(n : Int)) = Str.ofString ("-" ++ toString (0 - (-(n : Int)))) := congrArg Str.ofString (PyProof.Rows.toString_neg (n := -(n : Int)) (by omega))
  rw [e, show (0 - -(n : Int)) = (n : Int) by omega, tl_ofString]
  have e2 := tl_show_nat n
  unfold showZ at e2
  have e3 : tl (Str.ofString (toString (n : Int))) = numL n := e2
  rw [tl_ofString] at e3
  rw [String.toList_append, List.map_append, e3]
  rfl
theorem tl_slash : tl ("/" : Str) = [47] := by kernel_rfl
/-- what stands between the signs c -/
theorem join_spl (c : Nat) : ∀ (l acc : List Nat), joinL [c] (spl [c] 0 acc l) = acc ++ l
  | [], acc => by
    rw [spl_nil, List.append_nil]
    rfl
  | a :: r, acc => by
    by_cases h : a = c
    · have hp : pre [c] (a :: r) = true := by
        subst h
        show ([a] == [a]) = true
        exact beq_self_eq_true _
      rw [spl_hit hp]
      show joinL [c] (acc :: spl [c] 0 [] r) = _
      have ih := join_spl c r []
      cases e : spl [c] 0 [] r with
      | nil => exact absurd e (spl_ne _ _ _ _)
      | cons x y =>
        rw [e] at ih
        show acc ++ ([c] ++ joinL [c] (x :: y)) = _
        rw [ih, h]
        simp
    · have hp : pre [c] (a :: r) = false := by
        show ([a] == [c]) = false
        exact beq_eq_false_iff_ne.mpr fun e => h (List.cons.inj e).1
      rw [spl_miss hp, join_spl c r (acc ++ [a])]
      simp
theorem spl_free (c : Nat) : ∀ (l acc : List Nat), c ∉ acc → ∀ p ∈ spl [c] 0 acc l, c ∉ p
  | [], acc, h, p, hp => by
    rw [spl_nil, List.mem_singleton] at hp
    rw [hp]; exact h
  | a :: r, acc, h, p, hp => by
    by_cases e : a = c
    · have hh : pre [c] (a :: r) = true := by
        subst e
        show ([a] == [a]) = true
        exact beq_self_eq_true _
      rw [spl_hit hh] at hp
      rcases List.mem_cons.mp hp with rfl | hp
      · exact h
      · exact spl_free c r [] (by simp) p hp
    · have hh : pre [c] (a :: r) = false := by
        show ([a] == [c]) = false
        exact beq_eq_false_iff_ne.mpr fun z => e (List.cons.inj z).1
      rw [spl_miss hh] at hp
      refine spl_free c r (acc ++ [a]) ?_ p hp
      intro z
      rcases List.mem_append.mp z with z | z
      · exact h z
      · exact e (List.mem_singleton.mp z).symm
/-- the integer of sign and figures -/
def sgn (l : List Nat) : Int := if l.take 1 = [45] then -1 else 1
theorem figs_eq (l : List Nat) : l = (if l.take 1 = [45] then 45 :: figs l else figs l) := by
  unfold figs
  split
  · rename_i c
    cases l with
    | nil => cases c
    | cons a r =>
      simp at c
      simp [c]
  · rfl
theorem show_of {l : List Nat} {n : Nat} (h : figs l = numL n) (hs : l.take 1 = [45] → 0 < n) : tl (showZ (sgn l * (n : Int))) = l := by
  have e := figs_eq l
  unfold sgn
  by_cases c : l.take 1 = [45]
  · rw [if_pos c, show (-1 * (n : Int)) = -(n : Int) by omega, tl_show_neg (hs c)]
    rw [if_pos c, h] at e
    exact e.symm
  · rw [if_neg c, show (1 * (n : Int)) = (n : Int) by omega, tl_show_nat]
    rw [if_neg c, h] at e
    exact e.symm
theorem figs_show (p : Int) : figs (tl (showZ p)) = numL p.natAbs ∧ sgn (tl (showZ p)) * (p.natAbs : Int) = p ∧ ((tl (showZ p)).take 1 = [45] → 0 < p.natAbs ∧ p < 0) := by
  rcases Int.lt_or_le p 0 with h | h
  · have e : p = -((p.natAbs : Nat) : Int) := by omega
    have e2 : tl (showZ p) = 45 :: numL p.natAbs := by
      rw [e, tl_show_neg (by omega)]
      simp
    rw [e2]
    refine ⟨rfl, ?_, fun _ => ⟨by omega, h⟩⟩
    show (if ([45] : List Nat) = [45] then (-1 : Int) else 1) * _ = _
    rw [if_pos rfl]
    omega
  · have e : p = ((p.natAbs : Nat) : Int) := by omega
    have e2 : tl (showZ p) = numL p.natAbs := by
      rw [e, tl_show_nat]
      simp
    have hd := numL_digits p.natAbs
    have nt : ¬ (numL p.natAbs).take 1 = [45] := fun z => by
      cases hh : numL p.natAbs with
      | nil => exact numL_ne _ hh
      | cons a r =>
        rw [hh] at z hd
        simp at z
        have := hd a List.mem_cons_self
        omega
    rw [e2]
    refine ⟨figs_digits hd, ?_, fun z => absurd z nt⟩
    unfold sgn
    rw [if_neg nt]
    omega
theorem numL_len18 {n : Nat} (h : n < 10 ^ 18) : (numL n).length ≤ 18 := numL_len (by decide) h
/-- an integer's own text is read as it -/
theorem iw_show {p : Int} (h : p.natAbs < 10 ^ 18) : iwV 18 (showZ p) = .int p := by
  obtain ⟨e1, e2, e3⟩ := figs_show p
  have hl := numL_len18 h
  have hd := numL_digits p.natAbs
  have hne := numL_ne p.natAbs
  have hz := len_tl (showZ p)
  have hfe : (numL p.natAbs).isEmpty = false := by
    cases hh : numL p.natAbs with
    | nil => exact absurd hh hne
    | cons a r => rfl
  have hi : intText? (showZ p) = some p := by
    have fe := figs_eq (tl (showZ p))
    by_cases c : (tl (showZ p)).take 1 = [45]
    · rw [if_pos c, e1] at fe
      have hlen : (tl (showZ p)).length = (numL p.natAbs).length + 1 := by
        have := congrArg List.length fe
        simpa using this
      rw [intText_neg fe hd hne (by omega), numL_val]
      have := (e3 c).2
      congr 1
      omega
    · rw [if_neg c, e1] at fe
      have hn : ¬ p < 0 := fun h0 => by
        have ep : p = -((p.natAbs : Nat) : Int) := by omega
        have : tl (showZ p) = 45 :: numL p.natAbs := by
          rw [ep, tl_show_neg (by omega)]
          simp
        rw [this] at c
        exact c rfl
      have hlen : (tl (showZ p)).length = (numL p.natAbs).length := congrArg List.length fe
      rw [intText_digits (x := showZ p) (by show AllDigits (tl (showZ p)); rw [fe]; exact hd) (by show tl (showZ p) ≠ []; rw [fe]; exact hne) (by omega)]
      show some ((digitsVal (tl (showZ p)) : Nat) : Int) = some p
      rw [fe, numL_val]
      congr 1
      omega
  unfold iwV
  rw [e1, if_neg (by
    rintro (c | c | c)
    · rw [hfe] at c; cases c
    · omega
    · rw [digB_all.mpr hd] at c; cases c), hi]
  exact if_pos rfl
theorem iw_bound {z : Str} {i : Int} (h : iwV 18 z = .int i) : i.natAbs < 10 ^ 18 ∧ z = showZ i := by
  unfold iwV at h
  split at h
  · cases h
  · rename_i c
    split at h
    · rename_i j e
      split at h
      · rename_i t
        cases h
        have ez : z = showZ i := (ext_tl t).symm
        refine ⟨?_, ez⟩
        rw [ez] at c
        rw [(figs_show i).1] at c
        have hl : (numL i.natAbs).length ≤ 18 := by omega
        have hv := val_lt _ (numL_digits i.natAbs)
        rw [numL_val] at hv
        exact Nat.lt_of_lt_of_le hv (Nat.pow_le_pow_right (by decide) hl)
      · cases h
    · cases h
/-- what reading a fraction comes to -/
def fin2 (z : Str) (v1 v2 : V) : Option (Int × Int) := match v1, v2 with
  | .int p, .int q => if fracZ p q = true ∧ wrF p q = z then some (p, q) else none
  | _, _ => none
def partsS (z : Str) : Str × Str × Str := match linesS z with
  | [l] => Txt.partition l "/"
  | _ => ("", "", "")
def readF (z : Str) : Option (Int × Int) := fin2 z (iwV 18 (partsS z).1) (if (partsS z).2.1 = "" then .int 1 else iwV 18 (partsS z).2.2)
/-- the own reading -/
def dueW (r : Str) : List Str := Txt.split r "/"
def numF (w : Str) : Int := match numW 18 (tl w) with
  | some n => (n : Int)
  | none => -1
def tailS (z : Str) : Str := if cutS z none (some 1) = "-" then cutS z (some 1) none else z
def dueF (z : Str) : Option (Int × Int) := match (dueW (tailS z)).map numF with
  | [n] => if 0 ≤ n ∧ ¬ (sgn (tl z) < 0 ∧ n = 0) ∧ fracZ (sgn (tl z) * n) 1 = true then some (sgn (tl z) * n, 1) else none
  | [n, m] => if 0 ≤ n ∧ 0 ≤ m ∧ ¬ (sgn (tl z) < 0 ∧ n = 0) ∧ ¬ m < 2 ∧ fracZ (sgn (tl z) * n) m = true then some (sgn (tl z) * n, m) else none
  | _ => none
theorem tl_tail (z : Str) : tl (tailS z) = figs (tl z) := by
  have t1 : tl (cutS z none (some 1)) = (tl z).take 1 := tl_cut_take 1
  have t2 : tl (cutS z (some 1) none) = (tl z).drop 1 := tl_cut_drop 1
  unfold tailS figs
  by_cases c : cutS z none (some 1) = "-"
  · have c' : (tl z).take 1 = [45] := by rw [← t1, c, tl_minus]
    rw [if_pos c, if_pos c', t2]
  · have c' : ¬ (tl z).take 1 = [45] := fun e => c (ext_tl (by rw [t1, e, tl_minus]))
    rw [if_neg c, if_neg c']
theorem due_spl (z : Str) : (dueW (tailS z)).map tl = spl [47] 0 [] (figs (tl z)) := by
  unfold dueW
  rw [split_spl _ _ (by rw [tl_slash]; simp) (kind_ok (by kernel_rfl)), tl_slash, tl_tail]
theorem map_one {l : List Str} {x : List Nat} (h : l.map tl = [x]) : ∃ w, l = [w] ∧ tl w = x := by
  cases l with
  | nil => cases h
  | cons a r =>
    cases r with
    | nil => exact ⟨a, rfl, (List.cons.inj h).1⟩
    | cons b r => simp at h
theorem map_two {l : List Str} {x y : List Nat} (h : l.map tl = [x, y]) : ∃ w v, l = [w, v] ∧ tl w = x ∧ tl v = y := by
  cases l with
  | nil => cases h
  | cons a r =>
    obtain ⟨h1, h2⟩ := List.cons.inj h
    obtain ⟨w, e, h3⟩ := map_one h2
    exact ⟨a, w, by rw [e], h1, h3⟩
theorem numF_some {w : Str} (h : 0 ≤ numF w) : ∃ n : Nat, numF w = n ∧ tl w = numL n ∧ n < 10 ^ 18 := by
  unfold numF at *
  cases e : numW 18 (tl w) with
  | none => rw [e] at h; exact absurd h (by decide)
  | some n =>
    obtain ⟨c, l, rfl⟩ := numW_some e
    refine ⟨_, rfl, (numL_canon c).symm, ?_⟩
    have := val_lt _ c.2.1
    exact Nat.lt_of_lt_of_le this (Nat.pow_le_pow_right (by decide) (by omega))
theorem numF_num {w : Str} {n : Nat} (h : tl w = numL n) (hn : n < 10 ^ 18) : numF w = n := by
  unfold numF
  rw [h, numW_num (by have := numL_len18 hn; omega)]
theorem sgn_neg {l : List Nat} : sgn l < 0 ↔ l.take 1 = [45] := by
  unfold sgn
  split
  · rename_i c; exact ⟨fun _ => c, fun _ => by decide⟩
  · rename_i c; exact ⟨fun h => absurd h (by decide), fun h => absurd h c⟩
theorem sgn_abs (l : List Nat) (n : Nat) : (sgn l * (n : Int)).natAbs = n := by
  unfold sgn
  split <;> omega
/-- (A) -/
theorem due_wr {z : Str} {p q : Int} (h : dueF z = some (p, q)) : z = wrF p q ∧ fracZ p q = true ∧ p.natAbs < 10 ^ 18 ∧ q.natAbs < 10 ^ 18 := by
  have e := due_spl z
  have ej := join_spl 47 (figs (tl z)) []
  rw [List.nil_append] at ej
  unfold dueF at h
  match hw : dueW (tailS z), e, h with
  | [], _, h => cases h
  | [w], e, h =>
    have h' : (if 0 ≤ numF w ∧ ¬ (sgn (tl z) < 0 ∧ numF w = 0) ∧ fracZ (sgn (tl z) * numF w) 1 = true then some (sgn (tl z) * numF w, (1 : Int)) else none) = some (p, q) := h
    split at h'
    · rename_i c
      cases h'
      obtain ⟨c1, c2, c3⟩ := c
      obtain ⟨n, e1, e2, e3⟩ := numF_some c1
      have e' : [tl w] = spl [47] 0 [] (figs (tl z)) := e
      rw [← e'] at ej
      have ef : figs (tl z) = numL n := by rw [← ej, ← e2]; rfl
      rw [e1] at c2 c3 ⊢
      have hs : (tl z).take 1 = [45] → 0 < n := fun c => by
        have := sgn_neg.mpr c
        omega
      refine ⟨?_, c3, by rw [sgn_abs]; exact e3, by decide⟩
      unfold wrF
      rw [if_pos rfl]
      exact ext_tl (show_of ef hs).symm
    · cases h'
  | [w, w2], e, h =>
    have h' : (if 0 ≤ numF w ∧ 0 ≤ numF w2 ∧ ¬ (sgn (tl z) < 0 ∧ numF w = 0) ∧ ¬ numF w2 < 2 ∧ fracZ (sgn (tl z) * numF w) (numF w2) = true then some (sgn (tl z) * numF w, numF w2) else none) = some (p, q) := h
    split at h'
    · rename_i c
      cases h'
      obtain ⟨c1, c2, c3, c4, c5⟩ := c
      obtain ⟨n, e1, e2, e3⟩ := numF_some c1
      obtain ⟨m, f1, f2, f3⟩ := numF_some c2
      have e' : [tl w, tl w2] = spl [47] 0 [] (figs (tl z)) := e
      rw [← e'] at ej
      have ef : figs (tl z) = numL n ++ [47] ++ numL m := by
        rw [← ej, ← e2, ← f2]
        simp [joinL]
      rw [e1] at c3 c5 ⊢
      rw [f1] at c4 c5 ⊢
      have hs : (tl z).take 1 = [45] → 0 < n := fun c => by
        have := sgn_neg.mpr c
        omega
      refine ⟨?_, c5, by rw [sgn_abs]; exact e3, by omega⟩
      unfold wrF
      rw [if_neg (by omega)]
      refine ext_tl ?_
      rw [tl_append, tl_append, tl_slash, tl_show_nat]
      have fe := figs_eq (tl z)
      rw [ef] at fe
      refine fe.trans ?_
      unfold sgn
      by_cases c : (tl z).take 1 = [45]
      · rw [if_pos c, if_pos c, show (-1 * (n : Int)) = -(n : Int) by omega, tl_show_neg (hs c)]
        simp
      · rw [if_neg c, if_neg c, show (1 * (n : Int)) = (n : Int) by omega, tl_show_nat]
    · cases h'
  | _ :: _ :: _ :: _, _, h => cases h
/-- (B) -/
theorem read_wr {z : Str} {p q : Int} (h : readF z = some (p, q)) : z = wrF p q ∧ fracZ p q = true ∧ p.natAbs < 10 ^ 18 ∧ q.natAbs < 10 ^ 18 := by
  unfold readF fin2 at h
  split at h
  · rename_i p' q' e1 e2
    split at h
    · rename_i c
      cases h
      refine ⟨c.2.symm, c.1, (iw_bound e1).1, ?_⟩
      split at e2
      · cases e2; decide
      · exact (iw_bound e2).1
    · cases h
  · cases h
theorem wr_tl {p q : Int} : tl (wrF p q) = if q = 1 then tl (showZ p) else tl (showZ p) ++ 47 :: tl (showZ q) := by
  unfold wrF
  split
  · rfl
  · rw [tl_append, tl_append, tl_slash]
    simp
theorem show_free {p : Int} {c : Nat} (h : (c < 48 ∨ 57 < c) ∧ c ≠ 45) : c ∉ tl (showZ p) := fun hm => by
  obtain ⟨e1, _, _⟩ := figs_show p
  have fe := figs_eq (tl (showZ p))
  rw [e1] at fe
  rw [fe] at hm
  split at hm
  · rcases List.mem_cons.mp hm with z | z
    · exact h.2 z
    · exact numL_free h.1 z
  · exact numL_free h.1 hm
theorem frac_pos {p q : Int} (h : fracZ p q = true) : 1 ≤ q := by
  unfold fracZ at h
  rw [Bool.and_eq_true, decide_eq_true_eq] at h
  exact h.1
/-- (C) -/
theorem wr_due {p q : Int} (hf : fracZ p q = true) (hp : p.natAbs < 10 ^ 18) (hq : q.natAbs < 10 ^ 18) : dueF (wrF p q) = some (p, q) := by
  have q1 := frac_pos hf
  obtain ⟨e1, e2, e3⟩ := figs_show p
  have e := due_spl (wrF p q)
  have hsg : sgn (tl (wrF p q)) = sgn (tl (showZ p)) ∧ figs (tl (wrF p q)) = if q = 1 then numL p.natAbs else numL p.natAbs ++ 47 :: tl (showZ q) := by
    rw [wr_tl]
    by_cases c : q = 1
    · rw [if_pos c, if_pos c]
      exact ⟨rfl, e1⟩
    · rw [if_neg c, if_neg c]
      have hne : tl (showZ p) ≠ [] := fun z => by
        rw [z] at e1
        exact numL_ne _ e1.symm
      have ht : (tl (showZ p) ++ 47 :: tl (showZ q)).take 1 = (tl (showZ p)).take 1 := by
        cases hh : tl (showZ p) with
        | nil => exact absurd hh hne
        | cons a r => rfl
      have hdr : (tl (showZ p) ++ 47 :: tl (showZ q)).drop 1 = (tl (showZ p)).drop 1 ++ 47 :: tl (showZ q) := by
        cases hh : tl (showZ p) with
        | nil => exact absurd hh hne
        | cons a r => rfl
      refine ⟨by unfold sgn; rw [ht], ?_⟩
      rw [← e1]
      unfold figs
      rw [ht]
      split
      · exact hdr
      · rfl
  obtain ⟨s1, s2⟩ := hsg
  have hn0 : ¬ (sgn (tl (showZ p)) < 0 ∧ (p.natAbs : Int) = 0) := fun z => by
    have := (e3 (sgn_neg.mp z.1)).1
    omega
  rw [s2] at e
  unfold dueF
  rw [s1]
  by_cases c : q = 1
  · rw [if_pos c, spl_last1 (numL_free (by decide))] at e
    subst c
    obtain ⟨w, hw, ew⟩ := map_one e
    · rw [hw]
      rw [List.nil_append] at ew
      show (if 0 ≤ numF w ∧ ¬ (sgn (tl (showZ p)) < 0 ∧ numF w = 0) ∧ fracZ (sgn (tl (showZ p)) * numF w) 1 = true then some (sgn (tl (showZ p)) * numF w, (1 : Int)) else none) = _
      rw [numF_num ew hp, e2, if_pos ⟨by omega, hn0, hf⟩]
  · rw [if_neg c] at e
    have eq : q = ((q.natAbs : Nat) : Int) := by omega
    have tq : tl (showZ q) = numL q.natAbs := by
      rw [eq, tl_show_nat]
      simp
    rw [tq, show numL p.natAbs ++ 47 :: numL q.natAbs = numL p.natAbs ++ ([47] ++ numL q.natAbs) by simp, spl_part1 (numL_free (by decide)), spl_last1 (numL_free (by decide))] at e
    obtain ⟨w, w2, hw, ew, ew2⟩ := map_two e
    · rw [hw]
      rw [List.nil_append] at ew ew2
      show (if 0 ≤ numF w ∧ 0 ≤ numF w2 ∧ ¬ (sgn (tl (showZ p)) < 0 ∧ numF w = 0) ∧ ¬ numF w2 < 2 ∧ fracZ (sgn (tl (showZ p)) * numF w) (numF w2) = true then some (sgn (tl (showZ p)) * numF w, numF w2) else none) = _
      rw [numF_num ew hp, numF_num ew2 hq, e2, ← eq, if_pos ⟨by omega, by omega, hn0, by omega, hf⟩]
/-- (D) -/
theorem wr_read {p q : Int} (hf : fracZ p q = true) (hp : p.natAbs < 10 ^ 18) (hq : q.natAbs < 10 ^ 18) : readF (wrF p q) = some (p, q) := by
  have q1 := frac_pos hf
  obtain ⟨e1, e2, e3⟩ := figs_show p
  have hne : tl (showZ p) ≠ [] := fun z => by
    rw [z] at e1
    exact numL_ne _ e1.symm
  have hz : wrF p q ≠ "" := fun z => by
    have := congrArg tl z
    rw [wr_tl, tl_none] at this
    split at this
    · exact hne this
    · simp at this
  have fr : 10 ∉ tl (wrF p q) := by
    rw [wr_tl]
    split
    · exact show_free (by decide)
    · intro hm
      rcases List.mem_append.mp hm with z | z
      · exact show_free (by decide) z
      · rcases List.mem_cons.mp z with z | z
        · exact absurd z (by decide)
        · exact show_free (by decide) z
  have el : linesS (wrF p q) = [wrF p q] := by
    unfold linesS
    rw [if_neg hz]
    refine map_tl_inj ?_
    rw [split_spl _ _ nl_ok.1 (kind_ok nl_ok.2.1), show tl ("\n" : Str) = [10] by kernel_rfl, spl_last1 fr]
    rfl
  have ep : partsS (wrF p q) = if q = 1 then (showZ p, ("" : Str), ("" : Str)) else (showZ p, ("/" : Str), showZ q) := by
    unfold partsS
    rw [el]
    show Txt.partition (wrF p q) "/" = _
    unfold wrF
    by_cases c : q = 1
    · rw [if_pos c, if_pos c]
      rw [partition_none tl_slash (show_free (by decide))]
      have : (Str.empty : Str) = "" := ext_tl (by rw [tl_none]; rfl)
      rw [this]
    · rw [if_neg c, if_neg c]
      exact partition_app tl_slash (show_free (by decide))
  unfold readF
  rw [ep]
  by_cases c : q = 1
  · rw [if_pos c]
    show fin2 (wrF p q) (iwV 18 (showZ p)) (if ("" : Str) = "" then V.int 1 else _) = _
    rw [if_pos rfl, iw_show hp]
    show (if fracZ p 1 = true ∧ wrF p 1 = wrF p q then some (p, (1 : Int)) else none) = _
    rw [← c] at *
    rw [if_pos ⟨hf, rfl⟩]
  · rw [if_neg c]
    show fin2 (wrF p q) (iwV 18 (showZ p)) (if ("/" : Str) = "" then V.int 1 else iwV 18 (showZ q)) = _
    rw [if_neg (by decide +kernel), iw_show hp, iw_show hq]
    show (if fracZ p q = true ∧ wrF p q = wrF p q then some (p, q) else none) = _
    rw [if_pos ⟨hf, rfl⟩]
theorem read_due (z : Str) : readF z = dueF z := by
  cases h : readF z with
  | some a =>
    obtain ⟨p, q⟩ := a
    obtain ⟨e, hf, hp, hq⟩ := read_wr h
    rw [e, wr_due hf hp hq]
  | none =>
    cases h2 : dueF z with
    | none => rfl
    | some a =>
      obtain ⟨p, q⟩ := a
      obtain ⟨e, hf, hp, hq⟩ := due_wr h2
      rw [e, wr_read hf hp hq] at h
      cases h
end SH
end

section
/-! #### the walk's words -/
local macro_rules | `(tactic| walk_at "ne0") => `(tactic| first
  | assumption
  | (refine Ne.symm ?_; assumption))
local macro_rules | `(tactic| walk_at "ne") => `(tactic| first
  | assumption
  | (refine Ne.symm ?_; assumption)
  | (refine' L2.ne_of_none ?gx (by assumption); (case gx => walk_at "hp"))
  | (refine' Ne.symm (L2.ne_of_none ?gx (by assumption)); (case gx => walk_at "hp")))
local macro_rules | `(tactic| walk_at "hp") => `(tactic| first
  | assumption
  | exact L2.upd_same
  | (refine' SH.upd_new ?gh (by assumption); (case gh => walk_at "hp"))
  | (refine' (L2.upd_ne ?gn).trans ?gh; (case gn => walk_at "ne0"); (case gh => walk_at "hp"))
  | (refine' SH.Off.at (by assumption) ?gn ?gh; (case gn => walk_at "nin"); (case gh => walk_at "hp")))
local macro_rules | `(tactic| walk_at "nin") => `(tactic| first
  | exact SH.nin_nil
  | (refine SH.nin_cons ?_ ?_; (· walk_at "ne0"); (· walk_at "nin")))
local macro_rules | `(tactic| walk_at "sq") => `(tactic| first
  | assumption
  | (apply L2.SqL.of; (· walk_at "hp"))
  | (apply L2.SqT.of; (· walk_at "hp"))
  | (refine' SH.seqT_new ?gx (by assumption); (case gx => walk_at "sq"))
  | (refine' SH.seqL_new ?gx (by assumption); (case gx => walk_at "sq"))
  | (refine' SH.Off.seqT (by assumption) ?gx; (case gx => walk_at "sq"))
  | (refine' SH.Off.seqL (by assumption) ?gy ?gx; (case gx => walk_at "sq"); (case gy => walk_at "nin")))
local macro_rules | `(tactic| walk_at "kd") => `(tactic| first
  | assumption | exact SH.KdV.int _ | exact SH.KdV.bl _ | exact SH.KdV.str _ | exact SH.KdV.non
  | (apply SH.KdV.tup; (· walk_at "sq")) | (apply SH.KdV.lst; (· walk_at "sq")))
/-- a way that cannot be -/
local macro_rules | `(tactic| walk_at "no") => `(tactic| (exfalso; first | assumption | omega | contradiction | (simp_all; done)))
/-- one step -/
local macro_rules | `(tactic| walk_at "g1") => `(tactic| with_reducible first
  | refine SH.g_var (by with_unfolding_all rfl) ?_ | refine SH.g_c ?_ | refine SH.g_op ?_ | refine SH.g_un ?_ | refine SH.g_I0 ?_ | refine SH.g_U ?_
  | refine SH.g_eqI ?_ | refine SH.g_neI ?_ | refine SH.g_eqS ?_ | refine SH.g_neS ?_
  | refine SH.g_test ?_ | refine SH.g_B ?_ | refine SH.g_isB ?_ | refine SH.g_and ?_ | refine SH.g_or ?_ | refine SH.g_not ?_ | refine SH.g_andV ?_ | refine SH.g_orV ?_ | refine SH.g_notV ?_ | refine SH.g_ifE ?_ | refine SH.g_chain ?_
  | refine SH.g_nil ?_ | refine SH.g_cons ?_ | refine SH.g_tup ?_ | refine SH.g_lst ?_ | refine SH.g_call ?_ | refine SH.g_fld ?_ | refine SH.g_meth ?_ | refine SH.g_make ?_ | refine SH.g_cb ?_ | refine SH.g_bm ?_
  | refine SH.g_seq ?_ | refine SH.g_asg ?_ | refine SH.g_name ?_ | refine SH.g_drop ?_ | refine SH.g_ret ?_ | refine SH.g_retN ?_ | refine SH.g_next ?_ | refine SH.g_brk ?_ | refine SH.g_cnt ?_ | refine SH.g_ifs ?_ | refine SH.g_par ?_ | refine SH.g_par2 ?_ | refine SH.g_fldS ?_ | refine SH.g_raise ?_ | refine SH.g_rs ?_
  | refine SH.g_sub ?_ | refine SH.g_yes ?_ | refine SH.g_sl ?_ | refine SH.g_noPart ?_ | refine SH.g_part ?_ | refine SH.g_intO ?_ | refine SH.g_dget ?_ | refine SH.g_dput ?_ | refine SH.g_forR ?_ | refine SH.g_forL ?_ | refine SH.g_forT ?_ | refine SH.g_lcR ?_ | refine SH.g_lcL ?_ | refine SH.g_lcT ?_ | refine SH.g_gcons ?_ | refine SH.g_gnil ?_
  | refine SH.br_t ?_ | refine SH.br_f ?_
  | refine SH.g_int ?_ | refine SH.g_abs ?_ | refine SH.g_max2 ?_ | refine SH.g_min2 ?_)
local macro_rules | `(tactic| walk_at "g2") => `(tactic| first
  | walk_at "g1"
  | ((with_reducible refine' SH.g_isiInt ?ga ?gz); (case ga => walk_at "kd"))
  | ((with_reducible refine' SH.g_isiBool ?ga ?gz); (case ga => walk_at "kd"))
  | ((with_reducible refine' SH.g_isiStr ?ga ?gz); (case ga => walk_at "kd"))
  | ((with_reducible refine' SH.g_isiTup ?ga ?gz); (case ga => walk_at "kd"))
  | ((with_reducible refine' SH.g_ixT ?ga ?gb ?gz); (case ga => walk_at "sq"); (case gb => rfl))
  | ((with_reducible refine' SH.g_ixL ?ga ?gb ?gz); (case ga => walk_at "sq"); (case gb => first | rfl | (apply SH.atI_refs; assumption)))
  | ((with_reducible refine SH.br_F ?_ ?_); (· decide +kernel)) | ((with_reducible refine SH.br_T ?_ ?_); (· decide +kernel)) | ((with_reducible refine SH.br_NF ?_ ?_); (· decide +kernel)) | ((with_reducible refine SH.br_NT ?_ ?_); (· decide +kernel))
  | ((with_reducible refine' SH.g_gtup ?ga ?gb ?gz); (case ga => walk_at "sq"); (case gb => rfl))
  | ((with_reducible refine' SH.g_lenT ?ga ?gz); (case ga => walk_at "sq"))
  | ((with_reducible refine' SH.g_lenL ?ga ?gz); (case ga => walk_at "sq"))
  | ((with_reducible refine SH.g_mkT (SH.sz rfl) ?_); intro _ _)
  | ((with_reducible refine SH.g_mkL (SH.sz rfl) ?_); intro _ _)
  | ((with_reducible refine SH.g_dnew ?_); intro _ _)
  | ((with_reducible refine' SH.g_tupL ?ga ?gz); (case ga => walk_at "sq"); intro _ _)
  | ((with_reducible refine' SH.g_lstL ?ga ?gz); (case ga => walk_at "sq"); intro _ _)
  | ((with_reducible refine' SH.g_lstT ?ga ?gz); (case ga => walk_at "sq"); intro _ _)
  | ((with_reducible refine' SH.g_dgR ?ga ?gb ?gz); (case ga => walk_at "hp"); (case gb => walk_at "dv"))
  | ((with_reducible refine' SH.g_fldR ?ga ?gb ?gc ?gd ?gz); (case ga => walk_at "hp"); (case gb => walk_at "cl"); (case gc => walk_at "na"); (case gd => walk_at "fv"))
  | ((with_reducible refine' SH.g_insR ?ga ?gb ?gz); (case ga => walk_at "hp"); (case gb => walk_at "fn"))
  | ((with_reducible refine' SH.g_setL ?ga ?gb ?gz); (case ga => walk_at "hp"); (case gb => rfl))
  | ((with_reducible refine SH.g_I ?_ ?_); (· walk_at "ci"))
  | ((with_reducible refine' SH.g_slL ?ga ?gz); (case ga => walk_at "sq"); intro _ _)
  | ((with_reducible refine' SH.g_cat ?ga ?gb ?gc ?gz); (case ga => walk_at "hp"); (case gb => walk_at "hp"); (case gc => walk_at "ls"); intro _ _))
/-- the side conditions of numbers: a divisor, a factor -/
local macro_rules | `(tactic| walk_at "ci") => `(tactic| first
  | (show _ ≠ _; omega) | (show _ < _; omega) | (constructor <;> omega) | (refine Or.inr ⟨?_, ?_⟩ <;> (show _ < _; omega)) | (refine Or.inl ⟨?_, ?_⟩ <;> (show _ < _; omega)) | (refine ⟨?_, ?_, ?_⟩ <;> decide))
local macro_rules | `(tactic| walk_at "ls") => `(tactic| first | (show _ ≤ _; exact Nat.le_trans (by assumption) (by decide)) | (show _ ≤ _; exact Nat.le_trans (by simp; omega) (by decide : 1000 ≤ sizeLine)))
local macro_rules | `(tactic| walk_at "dv") => `(tactic| rfl)
local macro_rules | `(tactic| walk_at "fv") => `(tactic| rfl)
local macro_rules | `(tactic| walk_at "fn") => `(tactic| rfl)
local macro_rules | `(tactic| walk_at "cl") => `(tactic| assumption)
local macro_rules | `(tactic| walk_at "na") => `(tactic| assumption)
local macro_rules | `(tactic| walk_at "go") => `(tactic| repeat walk_at "g2")
/-- a way is split -/
local macro_rules | `(tactic| walk_at "br") => `(tactic| with_reducible first
  | refine SH.br_d (fun _ => ?_) (fun _ => ?_) | refine SH.br_nd (fun _ => ?_) (fun _ => ?_) | refine SH.br_b (fun _ => ?_) (fun _ => ?_))
/-- all ways -/
local macro_rules | `(tactic| walk_at "all") => `(tactic| repeat' first | walk_at "g2" | (walk_at "br" <;> try (walk_at "no")))
/-- a truth value is the other -/
local macro_rules | `(tactic| walk_at "bq") => `(tactic| first | rfl | (simp_all; done) | (simp_all; omega) | (simp only [decide_eq_true_eq, decide_eq_false_iff_not, Bool.and_eq_true, Bool.or_eq_true] at *; omega))
/-- what was tracked is as it was -/
local macro_rules | `(tactic| walk_at "of") => `(tactic| first
  | assumption
  | exact SH.Off.refl _ _
  | (refine' SH.Off.new2 ?gx (by assumption); (case gx => walk_at "of"))
  | (refine' SH.Off.mut ?gx (by assumption); (case gx => walk_at "of"))
  | (refine' SH.Off.trans' ?gx (by assumption) ?gy; (case gy => (intro _ h; (first | exact h | (simp at h; done) | (simp at h ⊢; simp [h]; done)))); (case gx => walk_at "of")))
/-- texts -/
local macro_rules | `(tactic| walk_at "g2") => `(tactic| first
  | (with_reducible first | refine SH.br_ntt ?_ | refine SH.br_ntf ?_ | refine SH.br_k ?_ | refine SH.br_nk ?_ | refine SH.g_lcS ?_ | refine SH.g_leS ?_ | refine SH.g_niS ?_ | refine SH.g_strS ?_ | refine SH.g_tM1 ?_ | refine SH.g_isStr ?_ | refine SH.g_enL ?_ | refine SH.g_star ?_)
  | ((with_reducible refine SH.g_slS ?_ ?_); (· omega))
  | ((with_reducible refine SH.g_lenS ?_ ?_); (· omega))
  | ((with_reducible refine' SH.g_bml ?ga ?gz); (case ga => walk_at "sq")))
namespace SH
open PySem PySem.Spec PyProof.Rows L2 TL NumText
/-! ### courses written -/
/-- whether a value is a step for five boats -/
def StB (K : PySem.W.Frag) (H : Hp) (x : V) (b : Bool) : Prop := (∃ q ys, x = .ref q ∧ SqT K H q ys ∧ ys.all flB = true ∧ b = stepB ys 5) ∨ ∃ kd, KdV K H x kd ∧ kd ≠ .tup ∧ b = false
theorem StB.off {K : PySem.W.Frag} {H H' : Hp} {x : V} {b : Bool} (h : StB K H x b) (o : Off [] H H') : StB K H' x b := by
  rcases h with ⟨q, ys, e, h, r⟩ | ⟨kd, h, r⟩
  · exact .inl ⟨q, ys, e, o.seqT h, r⟩
  · exact .inr ⟨kd, h.off o (fun _ _ _ _ => nin_nil), r⟩
/-- a step's parts, written -/
def lineS (ys : List V) : Str := Txt.join " " (ys.map strV)
def wrC (yss : List (List V)) : Str := Txt.join "\n" (yss.map lineS)
/-- a step that is one -/
def Vld (ys : List V) : Prop := ys = [.str "tick"] ∨ (∃ b : Int, (0 ≤ b ∧ b ≤ 4) ∧ (ys = [.str "tell", .int b] ∨ ys = [.str "hear", .int b])) ∨ (∃ b n : Int, (0 ≤ b ∧ b ≤ 4) ∧ (1 ≤ n ∧ n ≤ 20) ∧ ys = [.str "land", .int b, .int n]) ∨
  ∃ b t n : Int, (0 ≤ b ∧ b ≤ 4) ∧ (0 ≤ t ∧ t ≤ 4) ∧ b ≠ t ∧ (1 ≤ n ∧ n ≤ 500) ∧ ys = [.str "trade", .int b, .int t, .int n]
theorem in_amt' {n lo hi : Int} (h : lo ≤ n ∧ n ≤ hi) : inB lo hi (.int n) = true := by
  show (decide (lo ≤ n) && decide (n ≤ hi)) = true
  simp
  omega
theorem vld_ok {ys : List V} (h : Vld ys) : stepB ys 5 = true ∧ ys.all flB = true := by
  rcases h with rfl | ⟨b, hb, rfl | rfl⟩ | ⟨b, n, hb, hn, rfl⟩ | ⟨b, t, n, hb, ht, hbt, hn, rfl⟩
  · exact ⟨by kernel_rfl, by kernel_rfl⟩
  · refine ⟨?_, by kernel_rfl⟩
    show (inB 0 (5 - 1) (.int b) && decide (([] : List V).length = 0)) = true
    rw [in_amt' (by omega)]; rfl
  · refine ⟨?_, by kernel_rfl⟩
    show (inB 0 (5 - 1) (.int b) && decide (([] : List V).length = 0)) = true
    rw [in_amt' (by omega)]; rfl
  · refine ⟨?_, by kernel_rfl⟩
    show (inB 0 (5 - 1) (.int b) && inB 1 20 (.int n)) = true
    rw [in_amt' (by omega), in_amt' hn]; rfl
  · refine ⟨?_, by kernel_rfl⟩
    show (inB 0 (5 - 1) (.int b) && (inB 0 (5 - 1) (.int t) && !decide (V.int b = V.int t) && inB 1 500 (.int n))) = true
    rw [in_amt' (by omega), in_amt' (by omega), in_amt' hn, decide_eq_false (fun z => hbt (by injection z))]; rfl
/-- the parts of a step are a first word and numbers -/
theorem vld_parts {ys : List V} (h : Vld ys) : ∃ (w : Str) (ns : List Nat), ys = .str w :: ns.map (fun n : Nat => V.int (n : Int)) ∧ ns.length ≤ 3 ∧ (∀ n ∈ ns, n ≤ 500) ∧ (w = "tick" ∨ w = "tell" ∨ w = "hear" ∨ w = "land" ∨ w = "trade") := by
  rcases h with rfl | ⟨b, hb, rfl | rfl⟩ | ⟨b, n, hb, hn, rfl⟩ | ⟨b, t, n, hb, ht, hbt, hn, rfl⟩
  · exact ⟨"tick", [], rfl, by simp, by simp, by simp⟩
  · exact ⟨"tell", [b.toNat], by simp [Int.toNat_of_nonneg hb.1], by simp, by simp; omega, by simp⟩
  · exact ⟨"hear", [b.toNat], by simp [Int.toNat_of_nonneg hb.1], by simp, by simp; omega, by simp⟩
  · exact ⟨"land", [b.toNat, n.toNat], by simp [Int.toNat_of_nonneg hb.1, Int.toNat_of_nonneg (show 0 ≤ n by omega)], by simp, by simp; omega, by simp⟩
  · exact ⟨"trade", [b.toNat, t.toNat, n.toNat], by simp [Int.toNat_of_nonneg hb.1, Int.toNat_of_nonneg ht.1, Int.toNat_of_nonneg (show 0 ≤ n by omega)], by simp, by simp; omega, by simp⟩
theorem word_ok {w : Str} (h : w = "tick" ∨ w = "tell" ∨ w = "hear" ∨ w = "land" ∨ w = "trade") : w.length ≤ 5 ∧ (∀ c ∈ tl w, 96 < c ∧ c < 128) := by
  rcases h with rfl | rfl | rfl | rfl | rfl
  · rw [len_tl, show tl ("tick" : Str) = [116, 105, 99, 107] by kernel_rfl]; exact ⟨by decide, by simp⟩
  · rw [len_tl, show tl ("tell" : Str) = [116, 101, 108, 108] by kernel_rfl]; exact ⟨by decide, by simp⟩
  · rw [len_tl, show tl ("hear" : Str) = [104, 101, 97, 114] by kernel_rfl]; exact ⟨by decide, by simp⟩
  · rw [len_tl, show tl ("land" : Str) = [108, 97, 110, 100] by kernel_rfl]; exact ⟨by decide, by simp⟩
  · rw [len_tl, show tl ("trade" : Str) = [116, 114, 97, 100, 101] by kernel_rfl]; exact ⟨by decide, by simp⟩
theorem join_len (S : List Nat) (n : Nat) : ∀ {ps : List (List Nat)}, (∀ p ∈ ps, p.length ≤ n) → (joinL S ps).length ≤ (n + S.length) * ps.length
  | [], _ => Nat.zero_le _
  | [p], h => by
    have := h p List.mem_cons_self
    show p.length ≤ (n + S.length) * 1
    omega
  | p :: q :: r, h => by
    have h1 := h p List.mem_cons_self
    have h2 := join_len S n (ps := q :: r) fun x hx => h x (List.mem_cons_of_mem _ hx)
    show (p ++ (S ++ joinL S (q :: r))).length ≤ (n + S.length) * ((q :: r).length + 1)
    rw [List.length_append, List.length_append, Nat.mul_add, Nat.mul_one]
    omega
theorem join_mem (S : List Nat) : ∀ {ps : List (List Nat)} {c : Nat}, c ∈ joinL S ps → c ∈ S ∨ ∃ p ∈ ps, c ∈ p
  | [], c, h => by cases h
  | [p], c, h => .inr ⟨p, List.mem_cons_self, h⟩
  | p :: q :: r, c, h => by
    have h' : c ∈ p ++ (S ++ joinL S (q :: r)) := h
    rcases List.mem_append.mp h' with z | z
    · exact .inr ⟨p, List.mem_cons_self, z⟩
    · rcases List.mem_append.mp z with z | z
      · exact .inl z
      · rcases join_mem S z with z | ⟨x, hx, z⟩
        · exact .inl z
        · exact .inr ⟨x, List.mem_cons_of_mem _ hx, z⟩
theorem tl_sp : tl (" " : Str) = [32] := by kernel_rfl
theorem tl_nl : tl ("\n" : Str) = [10] := by kernel_rfl
theorem numL_small {n : Nat} (h : n ≤ 500) : (numL n).length ≤ 3 := numL_len (by decide) (by omega)
/-- a step's line: what its words are -/
theorem line_ok {ys : List V} (h : Vld ys) : wordsS (lineS ys) = ys.map strV ∧ stepL (lineS ys) = ys ∧ 10 ∉ tl (lineS ys) ∧ PlT (lineS ys) 24 ∧ lineS ys ≠ "" := by
  obtain ⟨w, ns, rfl, hl, hn, hw⟩ := vld_parts h
  obtain ⟨w5, wc⟩ := word_ok hw
  have em : (V.str w :: ns.map (fun n : Nat => V.int (n : Int))).map strV = w :: ns.map fun n : Nat => showZ (n : Int) := by
    rw [List.map_cons, List.map_map]
    rfl
  have free : ∀ p ∈ (w :: ns.map fun n : Nat => showZ (n : Int)), 32 ∉ tl p := by
    intro p hp
    rcases List.mem_cons.mp hp with rfl | hp
    · intro z
      have := wc 32 z
      omega
    · obtain ⟨n, _, rfl⟩ := List.mem_map.mp hp
      exact show_free (by decide)
  have e1 : wordsS (lineS (V.str w :: ns.map (fun n : Nat => V.int (n : Int)))) = w :: ns.map fun n : Nat => showZ (n : Int) := by
    unfold wordsS lineS
    rw [em]
    exact split_join tl_sp sp_ok.2.1 (by simp) free
  have etl : tl (lineS (V.str w :: ns.map (fun n : Nat => V.int (n : Int)))) = joinL [32] (tl w :: ns.map numL) := by
    unfold lineS
    rw [em, join_eq, tl_join, tl_sp, List.map_cons, List.map_map]
    congr 2
    exact List.map_congr_left fun n _ => tl_show_nat n
  have hmem : ∀ c ∈ tl (lineS (V.str w :: ns.map (fun n : Nat => V.int (n : Int)))), c = 32 ∨ (96 < c ∧ c < 128) ∨ (48 ≤ c ∧ c ≤ 57) := by
    intro c hc
    rw [etl] at hc
    rcases join_mem _ hc with z | ⟨p, hp, z⟩
    · exact .inl (List.mem_singleton.mp z)
    · rcases List.mem_cons.mp hp with rfl | hp
      · exact .inr (.inl (wc c z))
      · obtain ⟨n, _, rfl⟩ := List.mem_map.mp hp
        exact .inr (.inr (numL_digits n c z))
  refine ⟨by rw [e1, em], ?_, ?_, ⟨?_, ?_⟩, ?_⟩
  · unfold stepL
    rw [e1]
    show V.str w :: (ns.map fun n : Nat => showZ (n : Int)).map (iwV 9) = _
    rw [List.map_map]
    congr 1
    refine List.map_congr_left fun n hn' => ?_
    exact iw_num (by decide) (by rw [tl_show_nat]; exact numW_num (by have := numL_small (hn n hn'); omega))
  · intro z
    have := hmem 10 z
    omega
  · rw [len_tl, etl]
    have hb := join_len [32] 5 (ps := tl w :: ns.map numL) (by
      intro p hp
      rcases List.mem_cons.mp hp with rfl | hp
      · rw [← len_tl]; exact w5
      · obtain ⟨n, hn', rfl⟩ := List.mem_map.mp hp
        have := numL_small (hn n hn')
        omega)
    have hq : (tl w :: ns.map numL).length = ns.length + 1 := by rw [List.length_cons, List.length_map]
    rw [hq] at hb
    have : (5 + [32].length) * (ns.length + 1) ≤ 6 * 4 := Nat.mul_le_mul (Nat.le_refl _) (by omega)
    omega
  · intro c hc
    have := hmem c hc
    omega
  · intro z
    rw [z] at e1
    have e0 : wordsS "" = [("" : Str)] := by
      unfold wordsS
      refine map_tl_inj ?_
      rw [split_spl _ _ sp_ok.1 (kind_ok sp_ok.2.1), tl_none, spl_nil]
      simp [tl_none]
    rw [e0] at e1
    have : w = "" := (List.cons.inj e1).1.symm
    rcases hw with h | h | h | h | h <;> rw [h] at this <;> exact absurd this (by decide +kernel)
/-- a written course is read as it was -/
theorem course_ok {yss : List (List V)} (h : ∀ ys ∈ yss, Vld ys) (hl : yss.length ≤ 12) : linesS (wrC yss) = yss.map lineS ∧ badAt (linesS (wrC yss)) = none ∧ (linesS (wrC yss)).map stepL = yss ∧ PlT (wrC yss) 300 := by
  have etl : tl (wrC yss) = joinL [10] ((yss.map lineS).map tl) := by
    unfold wrC
    rw [join_eq, tl_join, tl_nl]
  have e1 : linesS (wrC yss) = yss.map lineS := by
    cases yss with
    | nil =>
      have : wrC [] = "" := ext_tl (by rw [etl, tl_none]; rfl)
      rw [this]
      unfold linesS
      rw [if_pos rfl]
      rfl
    | cons a r =>
      have hne : wrC (a :: r) ≠ "" := by
        intro z
        rw [z, tl_none] at etl
        have h0 := (line_ok (h a List.mem_cons_self)).2.2.2.2
        cases r with
        | nil =>
          have e : tl (lineS a) = [] := etl.symm
          exact h0 (ext_tl (by rw [e, tl_none]))
        | cons b r =>
          have e : ([] : List Nat) = tl (lineS a) ++ ([10] ++ joinL [10] ((lineS b :: r.map lineS).map tl)) := etl
          have := congrArg List.length e
          simp at this
      unfold linesS
      rw [if_neg hne]
      exact split_join tl_nl nl_ok.2.1 (by simp) fun p hp => by
        obtain ⟨ys, hys, rfl⟩ := List.mem_map.mp hp
        exact (line_ok (h ys hys)).2.2.1
  refine ⟨e1, ?_, ?_, ⟨?_, ?_⟩⟩
  · rw [e1]
    have : ∀ l : List (List V), (∀ ys ∈ l, Vld ys) → badAt (l.map lineS) = none := by
      intro l
      induction l with
      | nil => exact fun _ => rfl
      | cons a r ih =>
        intro h
        have ha := h a List.mem_cons_self
        have ho : okL (lineS a) = true := by
          unfold okL
          rw [(line_ok ha).2.1]
          exact (vld_ok ha).1
        show (if okL (lineS a) = true then (badAt (r.map lineS)).map (· + 1) else some 0) = none
        rw [if_pos ho, ih fun ys hys => h ys (List.mem_cons_of_mem _ hys)]
        rfl
    exact this yss h
  · rw [e1, List.map_map]
    have : ∀ ys ∈ yss, (stepL ∘ lineS) ys = ys := fun ys hys => (line_ok (h ys hys)).2.1
    rw [List.map_congr_left this, List.map_id']
  · rw [len_tl, etl]
    have hb := join_len [10] 24 (ps := (yss.map lineS).map tl) (by
      intro p hp
      rw [List.map_map] at hp
      obtain ⟨ys, hys, rfl⟩ := List.mem_map.mp hp
      have := (line_ok (h ys hys)).2.2.2.1.len
      rw [len_tl] at this
      exact this)
    have hq : ((yss.map lineS).map tl).length = yss.length := by rw [List.length_map, List.length_map]
    rw [hq] at hb
    have : (24 + [10].length) * yss.length ≤ 25 * 12 := Nat.mul_le_mul (Nat.le_refl _) hl
    omega
  · intro c hc
    rw [etl] at hc
    rcases join_mem _ hc with z | ⟨p, hp, z⟩
    · rw [List.mem_singleton.mp z]; decide
    · rw [List.map_map] at hp
      obtain ⟨ys, hys, rfl⟩ := List.mem_map.mp hp
      exact (line_ok (h ys hys)).2.2.2.1.sg c z
end SH
end

section
/-! #### the walk's words -/
local macro_rules | `(tactic| walk_at "ne0") => `(tactic| first
  | assumption
  | (refine Ne.symm ?_; assumption))
local macro_rules | `(tactic| walk_at "ne") => `(tactic| first
  | assumption
  | (refine Ne.symm ?_; assumption)
  | (refine' L2.ne_of_none ?gx (by assumption); (case gx => walk_at "hp"))
  | (refine' Ne.symm (L2.ne_of_none ?gx (by assumption)); (case gx => walk_at "hp")))
local macro_rules | `(tactic| walk_at "hp") => `(tactic| first
  | assumption
  | exact L2.upd_same
  | (refine' SH.upd_new ?gh (by assumption); (case gh => walk_at "hp"))
  | (refine' (L2.upd_ne ?gn).trans ?gh; (case gn => walk_at "ne0"); (case gh => walk_at "hp"))
  | (refine' SH.Off.at (by assumption) ?gn ?gh; (case gn => walk_at "nin"); (case gh => walk_at "hp")))
local macro_rules | `(tactic| walk_at "nin") => `(tactic| first
  | exact SH.nin_nil
  | (refine SH.nin_cons ?_ ?_; (· walk_at "ne0"); (· walk_at "nin")))
local macro_rules | `(tactic| walk_at "sq") => `(tactic| first
  | assumption
  | (apply L2.SqL.of; (· walk_at "hp"))
  | (apply L2.SqT.of; (· walk_at "hp"))
  | (refine' SH.seqT_new ?gx (by assumption); (case gx => walk_at "sq"))
  | (refine' SH.seqL_new ?gx (by assumption); (case gx => walk_at "sq"))
  | (refine' SH.Off.seqT (by assumption) ?gx; (case gx => walk_at "sq"))
  | (refine' SH.Off.seqL (by assumption) ?gy ?gx; (case gx => walk_at "sq"); (case gy => walk_at "nin")))
local macro_rules | `(tactic| walk_at "kd") => `(tactic| first
  | assumption | exact SH.KdV.int _ | exact SH.KdV.bl _ | exact SH.KdV.str _ | exact SH.KdV.non
  | (apply SH.KdV.tup; (· walk_at "sq")) | (apply SH.KdV.lst; (· walk_at "sq")))
/-- a way that cannot be -/
local macro_rules | `(tactic| walk_at "no") => `(tactic| (exfalso; first | assumption | omega | contradiction | (simp_all; done)))
/-- one step -/
local macro_rules | `(tactic| walk_at "g1") => `(tactic| with_reducible first
  | refine SH.g_var (by with_unfolding_all rfl) ?_ | refine SH.g_c ?_ | refine SH.g_op ?_ | refine SH.g_un ?_ | refine SH.g_I0 ?_ | refine SH.g_U ?_
  | refine SH.g_eqI ?_ | refine SH.g_neI ?_ | refine SH.g_eqS ?_ | refine SH.g_neS ?_
  | refine SH.g_test ?_ | refine SH.g_B ?_ | refine SH.g_isB ?_ | refine SH.g_and ?_ | refine SH.g_or ?_ | refine SH.g_not ?_ | refine SH.g_andV ?_ | refine SH.g_orV ?_ | refine SH.g_notV ?_ | refine SH.g_ifE ?_ | refine SH.g_chain ?_
  | refine SH.g_nil ?_ | refine SH.g_cons ?_ | refine SH.g_tup ?_ | refine SH.g_lst ?_ | refine SH.g_call ?_ | refine SH.g_fld ?_ | refine SH.g_meth ?_ | refine SH.g_make ?_ | refine SH.g_cb ?_ | refine SH.g_bm ?_
  | refine SH.g_seq ?_ | refine SH.g_asg ?_ | refine SH.g_name ?_ | refine SH.g_drop ?_ | refine SH.g_ret ?_ | refine SH.g_retN ?_ | refine SH.g_next ?_ | refine SH.g_brk ?_ | refine SH.g_cnt ?_ | refine SH.g_ifs ?_ | refine SH.g_par ?_ | refine SH.g_par2 ?_ | refine SH.g_fldS ?_ | refine SH.g_raise ?_ | refine SH.g_rs ?_
  | refine SH.g_sub ?_ | refine SH.g_yes ?_ | refine SH.g_sl ?_ | refine SH.g_noPart ?_ | refine SH.g_part ?_ | refine SH.g_intO ?_ | refine SH.g_dget ?_ | refine SH.g_dput ?_ | refine SH.g_forR ?_ | refine SH.g_forL ?_ | refine SH.g_forT ?_ | refine SH.g_lcR ?_ | refine SH.g_lcL ?_ | refine SH.g_lcT ?_ | refine SH.g_gcons ?_ | refine SH.g_gnil ?_
  | refine SH.br_t ?_ | refine SH.br_f ?_
  | refine SH.g_int ?_ | refine SH.g_abs ?_ | refine SH.g_max2 ?_ | refine SH.g_min2 ?_)
local macro_rules | `(tactic| walk_at "g2") => `(tactic| first
  | walk_at "g1"
  | ((with_reducible refine' SH.g_isiInt ?ga ?gz); (case ga => walk_at "kd"))
  | ((with_reducible refine' SH.g_isiBool ?ga ?gz); (case ga => walk_at "kd"))
  | ((with_reducible refine' SH.g_isiStr ?ga ?gz); (case ga => walk_at "kd"))
  | ((with_reducible refine' SH.g_isiTup ?ga ?gz); (case ga => walk_at "kd"))
  | ((with_reducible refine' SH.g_ixT ?ga ?gb ?gz); (case ga => walk_at "sq"); (case gb => rfl))
  | ((with_reducible refine' SH.g_ixL ?ga ?gb ?gz); (case ga => walk_at "sq"); (case gb => first | rfl | (apply SH.atI_refs; assumption)))
  | ((with_reducible refine SH.br_F ?_ ?_); (· decide +kernel)) | ((with_reducible refine SH.br_T ?_ ?_); (· decide +kernel)) | ((with_reducible refine SH.br_NF ?_ ?_); (· decide +kernel)) | ((with_reducible refine SH.br_NT ?_ ?_); (· decide +kernel))
  | ((with_reducible refine' SH.g_gtup ?ga ?gb ?gz); (case ga => walk_at "sq"); (case gb => rfl))
  | ((with_reducible refine' SH.g_lenT ?ga ?gz); (case ga => walk_at "sq"))
  | ((with_reducible refine' SH.g_lenL ?ga ?gz); (case ga => walk_at "sq"))
  | ((with_reducible refine SH.g_mkT (SH.sz rfl) ?_); intro _ _)
  | ((with_reducible refine SH.g_mkL (SH.sz rfl) ?_); intro _ _)
  | ((with_reducible refine SH.g_dnew ?_); intro _ _)
  | ((with_reducible refine' SH.g_tupL ?ga ?gz); (case ga => walk_at "sq"); intro _ _)
  | ((with_reducible refine' SH.g_lstL ?ga ?gz); (case ga => walk_at "sq"); intro _ _)
  | ((with_reducible refine' SH.g_lstT ?ga ?gz); (case ga => walk_at "sq"); intro _ _)
  | ((with_reducible refine' SH.g_dgR ?ga ?gb ?gz); (case ga => walk_at "hp"); (case gb => walk_at "dv"))
  | ((with_reducible refine' SH.g_fldR ?ga ?gb ?gc ?gd ?gz); (case ga => walk_at "hp"); (case gb => walk_at "cl"); (case gc => walk_at "na"); (case gd => walk_at "fv"))
  | ((with_reducible refine' SH.g_insR ?ga ?gb ?gz); (case ga => walk_at "hp"); (case gb => walk_at "fn"))
  | ((with_reducible refine' SH.g_setL ?ga ?gb ?gz); (case ga => walk_at "hp"); (case gb => rfl))
  | ((with_reducible refine SH.g_I ?_ ?_); (· walk_at "ci"))
  | ((with_reducible refine' SH.g_slL ?ga ?gz); (case ga => walk_at "sq"); intro _ _)
  | ((with_reducible refine' SH.g_cat ?ga ?gb ?gc ?gz); (case ga => walk_at "hp"); (case gb => walk_at "hp"); (case gc => walk_at "ls"); intro _ _))
/-- the side conditions of numbers: a divisor, a factor -/
local macro_rules | `(tactic| walk_at "ci") => `(tactic| first
  | (show _ ≠ _; omega) | (show _ < _; omega) | (constructor <;> omega) | (refine Or.inr ⟨?_, ?_⟩ <;> (show _ < _; omega)) | (refine Or.inl ⟨?_, ?_⟩ <;> (show _ < _; omega)) | (refine ⟨?_, ?_, ?_⟩ <;> decide))
local macro_rules | `(tactic| walk_at "ls") => `(tactic| first | (show _ ≤ _; exact Nat.le_trans (by assumption) (by decide)) | (show _ ≤ _; exact Nat.le_trans (by simp; omega) (by decide : 1000 ≤ sizeLine)))
local macro_rules | `(tactic| walk_at "dv") => `(tactic| rfl)
local macro_rules | `(tactic| walk_at "fv") => `(tactic| rfl)
local macro_rules | `(tactic| walk_at "fn") => `(tactic| rfl)
local macro_rules | `(tactic| walk_at "cl") => `(tactic| assumption)
local macro_rules | `(tactic| walk_at "na") => `(tactic| assumption)
local macro_rules | `(tactic| walk_at "go") => `(tactic| repeat walk_at "g2")
/-- a way is split -/
local macro_rules | `(tactic| walk_at "br") => `(tactic| with_reducible first
  | refine SH.br_d (fun _ => ?_) (fun _ => ?_) | refine SH.br_nd (fun _ => ?_) (fun _ => ?_) | refine SH.br_b (fun _ => ?_) (fun _ => ?_))
/-- all ways -/
local macro_rules | `(tactic| walk_at "all") => `(tactic| repeat' first | walk_at "g2" | (walk_at "br" <;> try (walk_at "no")))
/-- a truth value is the other -/
local macro_rules | `(tactic| walk_at "bq") => `(tactic| first | rfl | (simp_all; done) | (simp_all; omega) | (simp only [decide_eq_true_eq, decide_eq_false_iff_not, Bool.and_eq_true, Bool.or_eq_true] at *; omega))
/-- what was tracked is as it was -/
local macro_rules | `(tactic| walk_at "of") => `(tactic| first
  | assumption
  | exact SH.Off.refl _ _
  | (refine' SH.Off.new2 ?gx (by assumption); (case gx => walk_at "of"))
  | (refine' SH.Off.mut ?gx (by assumption); (case gx => walk_at "of"))
  | (refine' SH.Off.trans' ?gx (by assumption) ?gy; (case gy => (intro _ h; (first | exact h | (simp at h; done) | (simp at h ⊢; simp [h]; done)))); (case gx => walk_at "of")))
/-- texts -/
local macro_rules | `(tactic| walk_at "g2") => `(tactic| first
  | (with_reducible first | refine SH.br_ntt ?_ | refine SH.br_ntf ?_ | refine SH.br_k ?_ | refine SH.br_nk ?_ | refine SH.g_lcS ?_ | refine SH.g_leS ?_ | refine SH.g_niS ?_ | refine SH.g_strS ?_ | refine SH.g_tM1 ?_ | refine SH.g_isStr ?_ | refine SH.g_enL ?_ | refine SH.g_star ?_)
  | ((with_reducible refine SH.g_slS ?_ ?_); (· omega))
  | ((with_reducible refine SH.g_lenS ?_ ?_); (· omega))
  | ((with_reducible refine' SH.g_bml ?ga ?gz); (case ga => walk_at "sq")))
namespace SH
open PySem PySem.Spec PyProof.Rows L2 TL NumText
def spAreS (K : PySem.W.Frag) : Sp := fun vs H Q _ => ∃ v, vs = [v] ∧ ((∃ t xs bs, v = .ref t ∧ SqT K H t xs ∧ Paired (StB K H) xs bs ∧ xs.length ≤ 5000 ∧ ∀ H', Off [] H H' → Q (.bl (bs.all id)) H') ∨ ∃ kd, KdV K H v kd ∧ kd ≠ .tup ∧ Q (.bl false) H)
def spWrC (K : PySem.W.Frag) : Sp := fun vs H Q E => ∃ v, vs = [v] ∧ ((∃ t xs yss, v = .ref t ∧ SqT K H t xs ∧ Paired (fun x ys => ∃ q, x = V.ref q ∧ SqT K H q ys) xs yss ∧ (∀ ys ∈ yss, Vld ys) ∧ yss.length ≤ 12 ∧ ∀ H', Off [] H H' → Q (.str (wrC yss)) H') ∨
  (∃ t xs bs, v = .ref t ∧ SqT K H t xs ∧ Paired (StB K H) xs bs ∧ xs.length ≤ 5000 ∧ bs.all id = false ∧ ∀ H', Off [] H H' → RaiseW (He.ga K "BadArgument") "name" (.str "steps") H' E) ∨ ∃ kd, KdV K H v kd ∧ kd ≠ .tup ∧ RaiseW (He.ga K "BadArgument") "name" (.str "steps") H E)
section
variable {P : Program} {w : World} {K : PySem.W.Frag} {mg : Str → Option Value} {base : Heap}
theorem g_strV {ys : List V} {x : V} {H : Hp} {Q : VK} (vy : Vld ys) (hx : x ∈ ys) (q : Q (.str (strV x)) H) : rStr [x] H Q := by
  obtain ⟨w0, ns, rfl, n3, n5, nw⟩ := vld_parts vy
  rcases List.mem_cons.mp hx with rfl | h
  · exact g_strS q
  · obtain ⟨n, hn, rfl⟩ := List.mem_map.mp h
    refine g_strI (log_ok ?_ ?_) q
    · have : (0 : Int) ≤ 10 ^ 30 := by decide
      omega
    · have := n5 n hn
      have : (500 : Int) ≤ 10 ^ 30 := by decide
      omega
theorem filter_tt {α : Type} (xs : List α) : xs.filter (fun _ => true) = xs := by simp
theorem sum_le_of {xs : List Str} {n : Nat} (h : ∀ z ∈ xs, z.length ≤ n) : (xs.map (·.length)).sum ≤ n * xs.length := by
  induction xs with
  | nil => simp
  | cons x xs ih =>
    have h1 := h x List.mem_cons_self
    have h2 := ih fun z hz => h z (List.mem_cons_of_mem _ hz)
    rw [List.map_cons, List.sum_cons, List.length_cons, Nat.mul_add]
    omega
theorem strV_len {ys : List V} {x : V} (vy : Vld ys) (hx : x ∈ ys) : (strV x).length ≤ 24 := by
  obtain ⟨w0, ns, rfl, n3, n5, nw⟩ := vld_parts vy
  rcases List.mem_cons.mp hx with rfl | h
  · have := (word_ok nw).1
    show w0.length ≤ 24
    omega
  · obtain ⟨n, hn, rfl⟩ := List.mem_map.mp h
    have e : strV (V.int (n : Int)) = showZ (n : Int) := rfl
    rw [e, len_tl, tl_show_nat]
    have := numL_small (n5 n hn)
    omega
/-- a step's line, summed -/
theorem line_sum {ys : List V} (vy : Vld ys) : ((ys.map strV).map (·.length)).sum + (ys.map strV).length * (" " : Str).length ≤ 16777216 := by
  have yl : ys.length ≤ 4 := by
    obtain ⟨w0, ns, rfl, n3, n5, nw⟩ := vld_parts vy
    simp
    omega
  have h := sum_le_of (xs := ys.map strV) (n := 24) fun z hz => by
    obtain ⟨x, hx, rfl⟩ := List.mem_map.mp hz
    exact strV_len vy hx
  rw [List.length_map] at h ⊢
  have e : (" " : Str).length = 1 := by rw [len_tl, tl_sp]; rfl
  rw [e]
  have : 24 * ys.length ≤ 24 * 4 := Nat.mul_le_mul (Nat.le_refl _) yl
  omega
theorem course_sum {yss : List (List V)} (hv : ∀ ys ∈ yss, Vld ys) (hl : yss.length ≤ 12) : ((yss.map lineS).map (·.length)).sum + (yss.map lineS).length * ("\n" : Str).length ≤ 16777216 := by
  have h := sum_le_of (xs := yss.map lineS) (n := 24) fun z hz => by
    obtain ⟨x, hx, rfl⟩ := List.mem_map.mp hz
    exact (line_ok (hv x hx)).2.2.2.1.1
  rw [List.length_map] at h ⊢
  have e : ("\n" : Str).length = 1 := by rw [len_tl, tl_nl]; rfl
  rw [e]
  have : 24 * yss.length ≤ 24 * 12 := Nat.mul_le_mul (Nat.le_refl _) hl
  omega
theorem ok_are_season_steps (T : Txt P w K mg) : DefOk P w K mg base "are_season_steps" 4 ["value"] (spAreS K) := by
  refine T.d_are_season_steps.ok sc_are_season_steps (fun _ _ _ _ _ _ us hl => match us, hl with | [_], _ => rfl) (fun vs H Q E h => ?_) (fun f cdv A outer s H vs Q E hr h => ?_)
  · obtain ⟨v, rfl, _⟩ := h
    rfl
  · obtain ⟨v, rfl, h⟩ := h
    have hsz := sizeLine_eq
    have ok_is_season_step := fun {base : Heap} (T : Txt P w K mg) => SH.okX_is_season_step (base := base) T
    have B := T.blt
    have hu := hu_of hr
    have c_MOST_STEPS := T.c_MOST_STEPS
    have G_is_season_step := ok_is_season_step (base := base) T
    have c_MOST_BOATS := T.c_MOST_BOATS
    refine ⟨_, (pss_cons (ps_if (PW.pt (pw_or (pt_not (pt_val (pe_callB (call_isiK' (K := K) rfl) (by rfl) B.b_isinstance (by decide +kernel) (pa_cons (pv 0) (pa_cons (pe_bltn (v := .ty "tuple") rfl B.b_tuple (by decide +kernel) rfl) pa_nil))) (by intro _; rfl))) (pw_or1 (pt_cmpR op_gt (pe_callB (c_lenK (K := K) rfl) (by rfl) B.b_len PySem.boot_len (pa_cons (pv 0) pa_nil)) (pe_cint c_MOST_STEPS) (nomark _)))))
    (pss_one (ps_ret pe_bl))
    pss_nil)
  (pss_one (ps_ret (pe_callB (cr_allK (K := K) rfl rfl) (by rfl) B.b_all (by decide +kernel) (pa_cons (pe_lc (own := [("step", 1)]) rfl sc_are_season_steps.nd (pi_tupK (K := K) rfl (pv 0)) (blkOk_by (own := [("step", 1)]) (N := ["value", "step"]) (sc := defScope s_are_season_steps) (by decide +kernel)) (fun _ _ _ _ _ => (pg_name (i := 1) sc_are_season_steps.nd rfl (by first | exact Or.inl rfl | exact Or.inr rfl))) (fun _ _ _ _ _ => pts_nil) (fun _ _ _ _ _ => (pe_df G_is_season_step (hr.mono (by decide)) passN (pa_cons (pv 1) (pa_cons (pe_cint c_MOST_BOATS) pa_nil))))) pa_nil))))), ?_⟩
    rcases h with ⟨t, xs, bs, rfl, ht, hb, hl, q⟩ | ⟨kd, hk, nk, q⟩
    · have hk : KdV K H (.ref t) .tup := .tup ht
      have hlen := Paired.length hb
      walk_at "go"
      refine br_F (by omega) ?_
      walk_at "go"
      refine lcT_at (bs.map V.bl) ht (by rw [List.length_map]; exact hlen.symm) (by omega) ?_ ?_
      · intro i x y2 H4 hxi hyi o4 M N kk
        obtain ⟨b, hb4, rfl⟩ : ∃ b, bs[i]? = some b ∧ V.bl b = y2 := by simpa using hyi
        obtain ⟨b', hb5, hs⟩ := paired_get hb hxi
        cases hb4.symm.trans hb5
        have hs4 := hs.off o4
        walk_at "go"
        refine ⟨rfl, ?_⟩
        walk_at "go"
        rcases hs4 with ⟨p, ys, rfl, hp, hf, rfl⟩ | ⟨kd, hk, nk, rfl⟩
        · exact ⟨.ref p, 5, rfl, .inr (.inl ⟨p, ys, rfl, hp, hf, fun H5 o5 => kk _ o5⟩)⟩
        · exact ⟨x, 5, rfl, .inl ⟨kd, hk, nk, kk _ (.refl _ _)⟩⟩
      · intro D H4 hD o4 e6
        walk_at "go"
        refine ⟨D, bs, rfl, .of e6, ?_⟩
        exact q _ o4
    · have ek : (kd == Kd.tup) = false := by cases kd <;> first | rfl | exact absurd rfl nk
      walk_at "go"
      rw [ek]
      walk_at "go"
      exact q
theorem okL_write_course (T : Txt P w K mg) : DefL P w K mg base "write_course" 5 ["steps"] (spWrC K) := by
  refine T.d_write_course.okL sc_write_course (fun _ _ _ _ _ _ us hl => match us, hl with | [_], _ => rfl) (fun vs H Q E h => ?_) (fun f cdv A outer s H vs Q E hr h => ?_)
  · obtain ⟨v, rfl, _⟩ := h
    rfl
  · obtain ⟨v, rfl, h⟩ := h
    have hsz := sizeLine_eq
    have B := T.blt
    have hu := hu_of hr
    have G_demand := ok_demand (base := base) T
    have G_are_season_steps := ok_are_season_steps (base := base) T
    refine ⟨_, (pss_cons (ps_expr (pe_df G_demand (hr.mono (by decide)) (L2N.passes_call (L2N.takes_of rfl rfl rfl rfl) fun _ _ _ _ z => z) (pa_cons (pe_df G_are_season_steps (hr.mono (by decide)) (L2N.passes_call (L2N.takes_of rfl rfl rfl rfl) fun _ _ _ _ z => z) (pa_cons (pv 0) pa_nil)) (pa_cons pe_str pa_nil))))
  (pss_one (ps_ret (pe_joinS (K := K) rfl pe_str (pe_lc (own := [("step", 1)]) rfl sc_write_course.nd (pi_tupK (K := K) rfl (pv 0)) (blkOk_by (own := [("step", 1)]) (N := ["steps", "step", "part"]) (sc := defScope s_write_course) (by decide +kernel)) (fun _ _ _ _ _ => (pg_name (i := 1) sc_write_course.nd rfl (by first | exact Or.inl rfl | exact Or.inr rfl))) (fun _ _ _ _ _ => pts_nil) (fun _ _ _ _ _ => (pe_joinS (K := K) rfl pe_str (pe_lc (own := [("part", 2)]) rfl sc_write_course.nd (pi_tupK (K := K) rfl (pv 1)) (blkOk_by (own := [("part", 2)]) (N := ["steps", "step", "part"]) (sc := ⟨.function, [(Str.ofString ".0", .local), (Str.ofString "step", .local)], false, false, []⟩) (by decide +kernel)) (fun _ _ _ _ _ => (pg_name (i := 2) sc_write_course.nd rfl (by first | exact Or.inl rfl | exact Or.inr rfl))) (fun _ _ _ _ _ => pts_nil) (fun _ _ _ _ _ => (pe_callTy c_strA (by rfl) B.b_str (by decide +kernel) (pa_cons (pv 2) pa_nil))))))))))), ?_⟩
    rcases h with ⟨t, xs, yss, rfl, ht, hp, hv, hl, q⟩ | ⟨t, xs, bs, rfl, ht, hb, hl, hn, q⟩ | ⟨kd, hk, nk, q⟩
    · have hlen := Paired.length hp
      walk_at "go"
      have hb : Paired (StB K H) xs (yss.map fun ys => true) := by
        have : ∀ {xs : List V} {yss : List (List V)}, Paired (fun x ys => ∃ q, x = V.ref q ∧ SqT K H q ys) xs yss → (∀ ys ∈ yss, Vld ys) → Paired (StB K H) xs (yss.map fun ys => true) := by
          intro xs yss h
          induction h with
          | nil => exact fun _ => .nil
          | cons r t ih =>
            intro hv
            obtain ⟨q, e, hq⟩ := r
            obtain ⟨v1, v2⟩ := vld_ok (hv _ List.mem_cons_self)
            exact .cons (.inl ⟨q, _, e, hq, v2, v1.symm⟩) (ih fun ys hy => hv ys (List.mem_cons_of_mem _ hy))
        exact this hp hv
      refine ⟨_, rfl, .inl ⟨t, xs, _, rfl, ht, hb, by omega, fun H1 o1 => ?_⟩⟩
      rw [show (yss.map fun ys => true).all id = true by simp]
      walk_at "go"
      refine ⟨_, _, rfl, fun _ => ?_, fun z => by cases z⟩
      have ht1 := o1.seqT ht
      walk_at "go"
      refine lcT_at (yss.map fun ys => V.str (lineS ys)) ht1 (by rw [List.length_map]; exact hlen.symm) (by omega) ?_ ?_
      · intro i x y2 H4 hxi hyi o4 M N kk
        obtain ⟨ys, hys, rfl⟩ : ∃ ys, yss[i]? = some ys ∧ V.str (lineS ys) = y2 := by simpa using hyi
        obtain ⟨ys', hy5, p, rfl, hp4⟩ := paired_get hp hxi
        cases hys.symm.trans hy5
        have vy := hv ys (List.mem_of_getElem? hys)
        have hp5 := (o1.trans o4).seqT hp4
        have yl : ys.length ≤ 4 := by
          obtain ⟨w0, ns, rfl, n3, n5, nw⟩ := vld_parts vy
          simp
          omega
        walk_at "go"
        refine ⟨rfl, ?_⟩
        walk_at "go"
        refine lcT_pure (fun x => .str (strV x)) (fun _ => true) hp5 (by omega) (fun _ => rfl) ?_ ?_ ?_
        · intro x H5 hx o5 M kk
          walk_at "go"
          exact kk _ (.refl _ _)
        · intro x H5 hx _ o5 M kk
          walk_at "go"
          exact g_strV vy hx (kk _ (.refl _ _))
        · intro D5 H5 hD5 o5 e5
          have e5 : H5 D5 = some (.lst ((ys.map strV).map V.str)) := by rw [e5, filter_tt, List.map_map]; rfl
          walk_at "go"
          exact g_join (.of e5) (line_sum vy) (kk _ o5)
      · intro D H4 hD o4 e6
        walk_at "go"
        have e6 : H4 D = some (.lst ((yss.map lineS).map V.str)) := by rw [e6, List.map_map]; rfl
        exact g_join (.of e6) (course_sum hv hl) (q _ (o1.trans o4))
    · walk_at "go"
      refine ⟨_, rfl, .inl ⟨t, xs, bs, rfl, ht, hb, hl, fun H1 o1 => ?_⟩⟩
      rw [hn]
      walk_at "go"
      exact ⟨_, _, rfl, fun z => (by cases z), fun _ d hd => q H1 o1 d hd⟩
    · walk_at "go"
      refine ⟨_, rfl, .inr ⟨kd, hk, nk, ?_⟩⟩
      walk_at "go"
      exact ⟨_, _, rfl, fun z => (by cases z), fun _ d hd => q d hd⟩
theorem ok_write_course (T : Txt P w K mg) : DefOk P w K mg base "write_course" 5 ["steps"] (spWrC K) := (okL_write_course T).ok
end
end SH
end

section
/-! #### the walk's words -/
local macro_rules | `(tactic| walk_at "ne0") => `(tactic| first
  | assumption
  | (refine Ne.symm ?_; assumption))
local macro_rules | `(tactic| walk_at "ne") => `(tactic| first
  | assumption
  | (refine Ne.symm ?_; assumption)
  | (refine' L2.ne_of_none ?gx (by assumption); (case gx => walk_at "hp"))
  | (refine' Ne.symm (L2.ne_of_none ?gx (by assumption)); (case gx => walk_at "hp")))
local macro_rules | `(tactic| walk_at "hp") => `(tactic| first
  | assumption
  | exact L2.upd_same
  | (refine' SH.upd_new ?gh (by assumption); (case gh => walk_at "hp"))
  | (refine' (L2.upd_ne ?gn).trans ?gh; (case gn => walk_at "ne0"); (case gh => walk_at "hp"))
  | (refine' SH.Off.at (by assumption) ?gn ?gh; (case gn => walk_at "nin"); (case gh => walk_at "hp")))
local macro_rules | `(tactic| walk_at "nin") => `(tactic| first
  | exact SH.nin_nil
  | (refine SH.nin_cons ?_ ?_; (· walk_at "ne0"); (· walk_at "nin")))
local macro_rules | `(tactic| walk_at "sq") => `(tactic| first
  | assumption
  | (apply L2.SqL.of; (· walk_at "hp"))
  | (apply L2.SqT.of; (· walk_at "hp"))
  | (refine' SH.seqT_new ?gx (by assumption); (case gx => walk_at "sq"))
  | (refine' SH.seqL_new ?gx (by assumption); (case gx => walk_at "sq"))
  | (refine' SH.Off.seqT (by assumption) ?gx; (case gx => walk_at "sq"))
  | (refine' SH.Off.seqL (by assumption) ?gy ?gx; (case gx => walk_at "sq"); (case gy => walk_at "nin")))
local macro_rules | `(tactic| walk_at "kd") => `(tactic| first
  | assumption | exact SH.KdV.int _ | exact SH.KdV.bl _ | exact SH.KdV.str _ | exact SH.KdV.non
  | (apply SH.KdV.tup; (· walk_at "sq")) | (apply SH.KdV.lst; (· walk_at "sq")))
/-- a way that cannot be -/
local macro_rules | `(tactic| walk_at "no") => `(tactic| (exfalso; first | assumption | omega | contradiction | (simp_all; done)))
/-- one step -/
local macro_rules | `(tactic| walk_at "g1") => `(tactic| with_reducible first
  | refine SH.g_var (by with_unfolding_all rfl) ?_ | refine SH.g_c ?_ | refine SH.g_op ?_ | refine SH.g_un ?_ | refine SH.g_I0 ?_ | refine SH.g_U ?_
  | refine SH.g_eqI ?_ | refine SH.g_neI ?_ | refine SH.g_eqS ?_ | refine SH.g_neS ?_
  | refine SH.g_test ?_ | refine SH.g_B ?_ | refine SH.g_isB ?_ | refine SH.g_and ?_ | refine SH.g_or ?_ | refine SH.g_not ?_ | refine SH.g_andV ?_ | refine SH.g_orV ?_ | refine SH.g_notV ?_ | refine SH.g_ifE ?_ | refine SH.g_chain ?_
  | refine SH.g_nil ?_ | refine SH.g_cons ?_ | refine SH.g_tup ?_ | refine SH.g_lst ?_ | refine SH.g_call ?_ | refine SH.g_fld ?_ | refine SH.g_meth ?_ | refine SH.g_make ?_ | refine SH.g_cb ?_ | refine SH.g_bm ?_
  | refine SH.g_seq ?_ | refine SH.g_asg ?_ | refine SH.g_name ?_ | refine SH.g_drop ?_ | refine SH.g_ret ?_ | refine SH.g_retN ?_ | refine SH.g_next ?_ | refine SH.g_brk ?_ | refine SH.g_cnt ?_ | refine SH.g_ifs ?_ | refine SH.g_par ?_ | refine SH.g_par2 ?_ | refine SH.g_fldS ?_ | refine SH.g_raise ?_ | refine SH.g_rs ?_
  | refine SH.g_sub ?_ | refine SH.g_yes ?_ | refine SH.g_sl ?_ | refine SH.g_noPart ?_ | refine SH.g_part ?_ | refine SH.g_intO ?_ | refine SH.g_dget ?_ | refine SH.g_dput ?_ | refine SH.g_forR ?_ | refine SH.g_forL ?_ | refine SH.g_forT ?_ | refine SH.g_lcR ?_ | refine SH.g_lcL ?_ | refine SH.g_lcT ?_ | refine SH.g_gcons ?_ | refine SH.g_gnil ?_
  | refine SH.br_t ?_ | refine SH.br_f ?_
  | refine SH.g_int ?_ | refine SH.g_abs ?_ | refine SH.g_max2 ?_ | refine SH.g_min2 ?_)
local macro_rules | `(tactic| walk_at "g2") => `(tactic| first
  | walk_at "g1"
  | ((with_reducible refine' SH.g_isiInt ?ga ?gz); (case ga => walk_at "kd"))
  | ((with_reducible refine' SH.g_isiBool ?ga ?gz); (case ga => walk_at "kd"))
  | ((with_reducible refine' SH.g_isiStr ?ga ?gz); (case ga => walk_at "kd"))
  | ((with_reducible refine' SH.g_isiTup ?ga ?gz); (case ga => walk_at "kd"))
  | ((with_reducible refine' SH.g_ixT ?ga ?gb ?gz); (case ga => walk_at "sq"); (case gb => rfl))
  | ((with_reducible refine' SH.g_ixL ?ga ?gb ?gz); (case ga => walk_at "sq"); (case gb => first | rfl | (apply SH.atI_refs; assumption)))
  | ((with_reducible refine SH.br_F ?_ ?_); (· decide +kernel)) | ((with_reducible refine SH.br_T ?_ ?_); (· decide +kernel)) | ((with_reducible refine SH.br_NF ?_ ?_); (· decide +kernel)) | ((with_reducible refine SH.br_NT ?_ ?_); (· decide +kernel))
  | ((with_reducible refine' SH.g_gtup ?ga ?gb ?gz); (case ga => walk_at "sq"); (case gb => rfl))
  | ((with_reducible refine' SH.g_lenT ?ga ?gz); (case ga => walk_at "sq"))
  | ((with_reducible refine' SH.g_lenL ?ga ?gz); (case ga => walk_at "sq"))
  | ((with_reducible refine SH.g_mkT (SH.sz rfl) ?_); intro _ _)
  | ((with_reducible refine SH.g_mkL (SH.sz rfl) ?_); intro _ _)
  | ((with_reducible refine SH.g_dnew ?_); intro _ _)
  | ((with_reducible refine' SH.g_tupL ?ga ?gz); (case ga => walk_at "sq"); intro _ _)
  | ((with_reducible refine' SH.g_lstL ?ga ?gz); (case ga => walk_at "sq"); intro _ _)
  | ((with_reducible refine' SH.g_lstT ?ga ?gz); (case ga => walk_at "sq"); intro _ _)
  | ((with_reducible refine' SH.g_dgR ?ga ?gb ?gz); (case ga => walk_at "hp"); (case gb => walk_at "dv"))
  | ((with_reducible refine' SH.g_fldR ?ga ?gb ?gc ?gd ?gz); (case ga => walk_at "hp"); (case gb => walk_at "cl"); (case gc => walk_at "na"); (case gd => walk_at "fv"))
  | ((with_reducible refine' SH.g_insR ?ga ?gb ?gz); (case ga => walk_at "hp"); (case gb => walk_at "fn"))
  | ((with_reducible refine' SH.g_setL ?ga ?gb ?gz); (case ga => walk_at "hp"); (case gb => rfl))
  | ((with_reducible refine SH.g_I ?_ ?_); (· walk_at "ci"))
  | ((with_reducible refine' SH.g_slL ?ga ?gz); (case ga => walk_at "sq"); intro _ _)
  | ((with_reducible refine' SH.g_cat ?ga ?gb ?gc ?gz); (case ga => walk_at "hp"); (case gb => walk_at "hp"); (case gc => walk_at "ls"); intro _ _))
/-- the side conditions of numbers: a divisor, a factor -/
local macro_rules | `(tactic| walk_at "ci") => `(tactic| first
  | (show _ ≠ _; omega) | (show _ < _; omega) | (constructor <;> omega) | (refine Or.inr ⟨?_, ?_⟩ <;> (show _ < _; omega)) | (refine Or.inl ⟨?_, ?_⟩ <;> (show _ < _; omega)) | (refine ⟨?_, ?_, ?_⟩ <;> decide))
local macro_rules | `(tactic| walk_at "ls") => `(tactic| first | (show _ ≤ _; exact Nat.le_trans (by assumption) (by decide)) | (show _ ≤ _; exact Nat.le_trans (by simp; omega) (by decide : 1000 ≤ sizeLine)))
local macro_rules | `(tactic| walk_at "dv") => `(tactic| rfl)
local macro_rules | `(tactic| walk_at "fv") => `(tactic| rfl)
local macro_rules | `(tactic| walk_at "fn") => `(tactic| rfl)
local macro_rules | `(tactic| walk_at "cl") => `(tactic| assumption)
local macro_rules | `(tactic| walk_at "na") => `(tactic| assumption)
local macro_rules | `(tactic| walk_at "go") => `(tactic| repeat walk_at "g2")
/-- a way is split -/
local macro_rules | `(tactic| walk_at "br") => `(tactic| with_reducible first
  | refine SH.br_d (fun _ => ?_) (fun _ => ?_) | refine SH.br_nd (fun _ => ?_) (fun _ => ?_) | refine SH.br_b (fun _ => ?_) (fun _ => ?_))
/-- all ways -/
local macro_rules | `(tactic| walk_at "all") => `(tactic| repeat' first | walk_at "g2" | (walk_at "br" <;> try (walk_at "no")))
/-- a truth value is the other -/
local macro_rules | `(tactic| walk_at "bq") => `(tactic| first | rfl | (simp_all; done) | (simp_all; omega) | (simp only [decide_eq_true_eq, decide_eq_false_iff_not, Bool.and_eq_true, Bool.or_eq_true] at *; omega))
/-- what was tracked is as it was -/
local macro_rules | `(tactic| walk_at "of") => `(tactic| first
  | assumption
  | exact SH.Off.refl _ _
  | (refine' SH.Off.new2 ?gx (by assumption); (case gx => walk_at "of"))
  | (refine' SH.Off.mut ?gx (by assumption); (case gx => walk_at "of"))
  | (refine' SH.Off.trans' ?gx (by assumption) ?gy; (case gy => (intro _ h; (first | exact h | (simp at h; done) | (simp at h ⊢; simp [h]; done)))); (case gx => walk_at "of")))
namespace SH
open PySem PySem.Spec PyProof.Rows L2
/-! ### the law's dice -/
/-- the dice at a: at most c rolls were counted -/
def DiceAt (H : Hp) (a : Addr) (c : Int) : Prop := ∃ x y z : Int, H a = some (.lst [.int x, .int y, .int z]) ∧ 0 ≤ x ∧ 0 ≤ y ∧ y < 2147480009 ∧ 0 ≤ z ∧ z ≤ c
theorem DiceAt.mono {H : Hp} {a : Addr} {c c' : Int} (h : DiceAt H a c) (k : c ≤ c') : DiceAt H a c' := by
  obtain ⟨x, y, z, h1, h2, h3, h4, h5, h6⟩ := h
  exact ⟨x, y, z, h1, h2, h3, h4, h5, Int.le_trans h6 k⟩
theorem DiceAt.off {H H' : Hp} {a : Addr} {c : Int} {S : List Addr} (h : DiceAt H a c) (o : Off S H H') (n : a ∉ S) : DiceAt H' a c := by
  obtain ⟨x, y, z, h1, r⟩ := h
  exact ⟨x, y, z, o.at n h1, r⟩
def spRoll : Sp := fun vs H Q _ => ∃ a n c, vs = [.ref a, .int n] ∧ DiceAt H a c ∧ c ≤ 1000000000 ∧ 0 < n ∧ n < 1073741824 ∧ ∀ r H', 0 ≤ r → r < n → DiceAt H' a (c + 1) → Off [a] H H' → Q (.int r) H'
def spPick (K : PySem.W.Frag) : Sp := fun vs H Q _ => ∃ a l c xs, vs = [.ref a, .ref l] ∧ DiceAt H a c ∧ c ≤ 1000000000 ∧ SqL K H l xs ∧ 0 < xs.length ∧ xs.length < 1000 ∧ a ≠ l ∧ ∀ v H', v ∈ xs → DiceAt H' a (c + 1) → Off [a] H H' → Q v H'
def spDice (K : PySem.W.Frag) : Sp := fun vs H Q _ => ∃ (a : Addr) (spot : Int) (ns : List Int), vs = [.ref a, .int spot] ∧ SqL K H a (ns.map V.int) ∧ ns.length ≤ 63 ∧ 0 ≤ spot ∧ spot < 1000 ∧ ∀ p H', H p = none → DiceAt H' p 0 → Off [] H H' → Q (.ref p) H'
section
variable {P : Program} {w : World} {K : PySem.W.Frag} {mg : Str → Option Value} {base : Heap}
theorem ok_law_roll (T : Txt P w K mg) : DefOk P w K mg base "_law_roll" 1 ["dice", "total"] spRoll := by
  refine T.d_law_roll.ok sc_law_roll (fun _ _ _ _ _ _ us hl => match us, hl with | [_, _], _ => rfl) (fun vs H Q E h => ?_) (fun f cdv A outer s H vs Q E hr h => ?_)
  · obtain ⟨a, n, c, rfl, _⟩ := h
    rfl
  · obtain ⟨a, n, c, rfl, ⟨x, y, z, h1, h2, h3, h4, h5, h6⟩, hc, hn, hn2, q⟩ := h
    have B := T.blt
    have hu := hu_of hr
    refine ⟨_, (pss_cons (ps_if (pt_cmpR op_gt (pe_ix (ix_listK (K := K) rfl) (pv 0) pe_int (fun _ _ => rfl)) pe_int (nomark _))
    (pss_cons (ps_set (i := 2) sc_law_roll.nd rfl (by first | exact Or.inl rfl | exact Or.inr rfl) (pe_op op_modN (pe_callTy c_int (by rfl) B.b_int (by decide +kernel) (pa_cons (pe_ix (ix_listK (K := K) rfl) (pv 0) pe_int (fun _ _ => rfl)) pa_nil)) (pv 1)))
  (pss_cons (ps_asg (pe_op op_fdivN (pe_ix (ix_listK (K := K) rfl) (pv 0) pe_int (fun _ _ => rfl)) (pv 1)) (pg_sub (pv 0) pe_int set_list))
  (pss_one (ps_ret (pv 2)))))
    pss_nil)
  (pss_cons (ps_asg (pe_op op_add (pe_ix (ix_listK (K := K) rfl) (pv 0) pe_int (fun _ _ => rfl)) pe_int) (pg_sub (pv 0) pe_int set_list))
  (pss_cons (ps_asg (pe_op op_modN (pe_callTy c_int (by rfl) B.b_int (by decide +kernel) (pa_cons (pe_op op_add (pe_op op_add (pe_op op_mul (pe_ix (ix_listK (K := K) rfl) (pv 0) pe_int (fun _ _ => rfl)) pe_int) (pe_op op_mul (pe_op op_mul (pe_ix (ix_listK (K := K) rfl) (pv 0) pe_int (fun _ _ => rfl)) (pe_ix (ix_listK (K := K) rfl) (pv 0) pe_int (fun _ _ => rfl))) pe_int)) pe_int) pa_nil)) pe_int) (pg_sub (pv 0) pe_int set_list))
  (pss_one (ps_ret (pe_op op_modN (pe_callTy c_int (by rfl) B.b_int (by decide +kernel) (pa_cons (pe_op op_fdivN (pe_ix (ix_listK (K := K) rfl) (pv 0) pe_int (fun _ _ => rfl)) pe_int) pa_nil)) (pv 1))))))), ?_⟩
    walk_at "all"
    · have e1 := Int.fmod_eq_emod_of_nonneg x (show (0 : Int) ≤ n by omega)
      have e2 := Int.fdiv_eq_ediv_of_nonneg x (show (0 : Int) ≤ n by omega)
      refine q _ _ (by rw [e1]; exact Int.emod_nonneg _ (by omega)) (by rw [e1]; exact Int.emod_lt_of_pos _ hn) ⟨x.fdiv n, y, z, upd_same, by rw [e2]; exact Int.ediv_nonneg h2 (by omega), h3, h4, h5, by omega⟩ (.put (by simp) h1 trivial)
    · generalize hb : (y * 52501 + (z + 1) * (z + 1) * 1009 + 77).fmod 2147480009 = y2
      have e0 := Int.fmod_eq_emod_of_nonneg (y * 52501 + (z + 1) * (z + 1) * 1009 + 77) (show (0 : Int) ≤ 2147480009 by omega)
      rw [hb] at e0
      have y0 : 0 ≤ y2 := by rw [e0]; exact Int.emod_nonneg _ (by omega)
      have y1 : y2 < 2147480009 := by rw [e0]; exact Int.emod_lt_of_pos _ (by omega)
      have e1 := Int.fmod_eq_emod_of_nonneg (y2.fdiv 211) (show (0 : Int) ≤ n by omega)
      refine q _ _ (by rw [e1]; exact Int.emod_nonneg _ (by omega)) (by rw [e1]; exact Int.emod_lt_of_pos _ hn) ⟨x, y2, z + 1, upd_same, h2, y0, y1, by omega, by omega⟩ ?_
      exact (Off.put (by simp) h1 trivial).trans (.put (by simp) upd_same trivial)
theorem ok_law_pick (T : Txt P w K mg) : DefOk P w K mg base "_law_pick" 2 ["dice", "things"] (spPick K) := by
  refine T.d_law_pick.ok sc_law_pick (fun _ _ _ _ _ _ us hl => match us, hl with | [_, _], _ => rfl) (fun vs H Q E h => ?_) (fun f cdv A outer s H vs Q E hr h => ?_)
  · obtain ⟨a, l, c, xs, rfl, _⟩ := h
    rfl
  · obtain ⟨a, l, c, xs, rfl, hd, hc, hl, h1, h2, hne, q⟩ := h
    have B := T.blt
    have hu := hu_of hr
    have G_law_roll := ok_law_roll (base := base) T
    refine ⟨_, (pss_one (ps_ret (pe_ix (ix_listK (K := K) rfl) (pv 1) (pe_df G_law_roll (hr.mono (by decide)) (L2N.passes_call (L2N.takes_of rfl rfl rfl rfl) fun _ _ _ _ z => z) (pa_cons (pv 0) (pa_cons (pe_callB (c_lenK (K := K) rfl) (by rfl) B.b_len PySem.boot_len (pa_cons (pv 1) pa_nil)) pa_nil))) (fun _ _ => rfl)))), ?_⟩
    walk_at "go"
    refine ⟨a, (xs.length : Int), c, rfl, hd, hc, by omega, by omega, fun r H1 r0 r1 d1 o1 => ?_⟩
    obtain ⟨v, hv⟩ : ∃ v, atI xs r = some v := by
      unfold atI ixN
      rw [if_pos r0, if_pos r1]
      exact ⟨xs[r.toNat]'(by omega), by simp⟩
    refine g_ixL (o1.seqL (by simpa using hne.symm) hl) hv (q v H1 ?_ d1 o1)
    unfold atI at hv
    obtain ⟨j, _, hj⟩ := Option.bind_eq_some_iff.mp hv
    exact List.mem_of_getElem? hj
theorem ok_law_dice (T : Txt P w K mg) : DefOk P w K mg base "_law_dice" 1 ["script", "spot"] (spDice K) := by
  refine T.d_law_dice.ok sc_law_dice (fun _ _ _ _ _ _ us hl => match us, hl with | [_, _], _ => rfl) (fun vs H Q E h => ?_) (fun f cdv A outer s H vs Q E hr h => ?_)
  · obtain ⟨a, spot, ns, rfl, _⟩ := h
    rfl
  · obtain ⟨a, spot, ns, rfl, hS, hlen, h0, h1, q⟩ := h
    have B := T.blt
    have hu := hu_of hr
    refine ⟨_, (pss_cut (ps_set (i := 2) sc_law_dice.nd rfl (by first | exact Or.inl rfl | exact Or.inr rfl) (pe_ifExp (pt_cmpR op_lt (pv 1) (pe_callB (c_lenK (K := K) rfl) (by rfl) B.b_len PySem.boot_len (pa_cons (pv 0) pa_nil)) (nomark _)) (pe_ix (ix_listK (K := K) rfl) (pv 0) (pv 1) (fun _ _ => rfl)) (pe_op op_add (pe_op op_mul pe_int (pv 1)) pe_int)))
  (pss_cons (ps_set (i := 3) sc_law_dice.nd rfl (by first | exact Or.inl rfl | exact Or.inr rfl) (pe_op op_add pe_int (pe_op op_mul pe_int (pv 1))))
  (pss_cons (ps_for (passes_of rfl) rfl (pi_listK (K := K) rfl (pe_op op_cat (pe_slice (sl_listK (K := K) rfl) (pv 0) po_none (po_some pe_int)) (pe_lst (pa_cons (pv 2) pa_nil)))) (pg_name (i := 4) sc_law_dice.nd rfl (by first | exact Or.inl rfl | exact Or.inr rfl))
    (pss_one (ps_set (i := 3) sc_law_dice.nd rfl (by first | exact Or.inl rfl | exact Or.inr rfl) (pe_op op_modN (pe_callTy c_int (by rfl) B.b_int (by decide +kernel) (pa_cons (pe_op op_add (pe_op op_mul (pv 3) pe_int) (pe_op op_modN (pe_callTy c_int (by rfl) B.b_int (by decide +kernel) (pa_cons (pv 4) pa_nil)) pe_int)) pa_nil)) pe_int))))
  (pss_one (ps_ret (pe_lst (pa_cons (pe_ifExp (PW.pt (pw_or (pt_cmpR op_lt (pv 2) pe_int (nomark _)) (pw_or1 (pt_cmpR op_ge (pv 2) (pe_op op_pow pe_int pe_int) (nomark _))))) (pe_callB c_abs (by rfl) B.b_abs (by decide +kernel) (pa_cons (pv 2) pa_nil)) pe_int) (pa_cons (pv 3) (pa_cons pe_int pa_nil))))))))), ?_⟩
    refine SH.g_cut (fun σ' H' => ∃ own : Int, σ' = [some (.ref a), some (.int spot), some (.int own), none, none] ∧ H' = H) ?_ ?_
    · walk_at "all"
      · rename_i hlt
        obtain ⟨v, hv, hm, _⟩ := atI_nat' (xs := ns.map V.int) h0 hlt
        obtain ⟨k, _, rfl⟩ := List.mem_map.mp hm
        refine g_ixL hS hv ?_
        walk_at "go"
        exact ⟨k, rfl, rfl⟩
      · exact ⟨733 * spot + 29, rfl, rfl⟩
    · rintro σ' H' ⟨own, rfl, rfl⟩
      walk_at "go"
      rename_i p hp p2 hp2
      have hl1 := cutV_len (ns.map V.int) none (some 6)
      rw [List.length_map] at hl1
      refine g_cat (by walk_at "hp") (by walk_at "hp") (Nat.le_trans (show _ ≤ 1000 by simp; omega) (by decide)) fun p3 hp3 => ?_
      have o3 : Off [] H' (upd (upd (upd H' p (HO.lst (cutV (List.map V.int ns) none (some 6)))) p2 (HO.lst [V.int own])) p3 (HO.lst (cutV (ns.map V.int) none (some 6) ++ [V.int own]))) := ((Off.new hp).new2 hp2).new2 hp3
      refine forL_mk (fun i σ H1 => ∃ m : Int, ∃ c : Option V, σ = [some (.ref a), some (.int spot), some (.int own), some (.int m), c] ∧ 0 ≤ m ∧ (i = 0 ∨ m < 2147480009) ∧ m < 1000000000000 ∧ Off [] H' H1 ∧ H1 p3 = some (.lst (cutV (ns.map V.int) none (some 6) ++ [V.int own])))
        (SqL.of upd_same) ⟨910003 + 7907 * spot, none, rfl, by omega, .inl rfl, by omega, o3, upd_same⟩ (fun i σ H1 _ hp => ?_) (fun i x σ H1 hi hp => ?_) (fun σ H1 hp => ?_)
      · obtain ⟨m, c, _, _, _, _, _, h⟩ := hp
        exact SqL.of h
      · obtain ⟨m, c, rfl, m0, _, m1, o, h⟩ := hp
        obtain ⟨k, rfl⟩ : ∃ k, x = V.int k := by
          rcases List.mem_append.mp (List.mem_of_getElem? hi) with hm | hm
          · obtain ⟨k, _, rfl⟩ := List.mem_map.mp (mem_cutV hm)
            exact ⟨k, rfl⟩
          · exact ⟨own, List.mem_singleton.mp hm⟩
        walk_at "go"
        generalize hb : (m * 48271 + k.fmod 2147480009).fmod 2147480009 = y2
        have e0 := Int.fmod_eq_emod_of_nonneg (m * 48271 + k.fmod 2147480009) (show (0 : Int) ≤ 2147480009 by omega)
        rw [hb] at e0
        have y0 : 0 ≤ y2 := by rw [e0]; exact Int.emod_nonneg _ (by omega)
        have y1 : y2 < 2147480009 := by rw [e0]; exact Int.emod_lt_of_pos _ (by omega)
        exact ⟨y2, _, rfl, y0, .inr y1, by omega, o, h⟩
      · obtain ⟨m, c, rfl, m0, ml, m1, o, h⟩ := hp
        have hm : m < 2147480009 := by
          rcases ml with h | h
          · simp at h
          · exact h
        walk_at "all"
        all_goals (rename_i pz hz; refine q pz _ (o.back hz) ⟨_, m, 0, upd_same, ?_, m0, hm, by omega, by omega⟩ (o.new2 hz))
        all_goals (first | (split <;> omega) | omega)
end
end SH
end

section
/-! #### the walk's words -/
local macro_rules | `(tactic| walk_at "ne0") => `(tactic| first
  | assumption
  | (refine Ne.symm ?_; assumption))
local macro_rules | `(tactic| walk_at "ne") => `(tactic| first
  | assumption
  | (refine Ne.symm ?_; assumption)
  | (refine' L2.ne_of_none ?gx (by assumption); (case gx => walk_at "hp"))
  | (refine' Ne.symm (L2.ne_of_none ?gx (by assumption)); (case gx => walk_at "hp")))
local macro_rules | `(tactic| walk_at "hp") => `(tactic| first
  | assumption
  | exact L2.upd_same
  | (refine' SH.upd_new ?gh (by assumption); (case gh => walk_at "hp"))
  | (refine' (L2.upd_ne ?gn).trans ?gh; (case gn => walk_at "ne0"); (case gh => walk_at "hp"))
  | (refine' SH.Off.at (by assumption) ?gn ?gh; (case gn => walk_at "nin"); (case gh => walk_at "hp")))
local macro_rules | `(tactic| walk_at "nin") => `(tactic| first
  | exact SH.nin_nil
  | (refine SH.nin_cons ?_ ?_; (· walk_at "ne0"); (· walk_at "nin")))
local macro_rules | `(tactic| walk_at "sq") => `(tactic| first
  | assumption
  | (apply L2.SqL.of; (· walk_at "hp"))
  | (apply L2.SqT.of; (· walk_at "hp"))
  | (refine' SH.seqT_new ?gx (by assumption); (case gx => walk_at "sq"))
  | (refine' SH.seqL_new ?gx (by assumption); (case gx => walk_at "sq"))
  | (refine' SH.Off.seqT (by assumption) ?gx; (case gx => walk_at "sq"))
  | (refine' SH.Off.seqL (by assumption) ?gy ?gx; (case gx => walk_at "sq"); (case gy => walk_at "nin")))
local macro_rules | `(tactic| walk_at "kd") => `(tactic| first
  | assumption | exact SH.KdV.int _ | exact SH.KdV.bl _ | exact SH.KdV.str _ | exact SH.KdV.non
  | (apply SH.KdV.tup; (· walk_at "sq")) | (apply SH.KdV.lst; (· walk_at "sq")))
/-- a way that cannot be -/
local macro_rules | `(tactic| walk_at "no") => `(tactic| (exfalso; first | assumption | omega | contradiction | (simp_all; done)))
/-- one step -/
local macro_rules | `(tactic| walk_at "g1") => `(tactic| with_reducible first
  | refine SH.g_var (by with_unfolding_all rfl) ?_ | refine SH.g_c ?_ | refine SH.g_op ?_ | refine SH.g_un ?_ | refine SH.g_I0 ?_ | refine SH.g_U ?_
  | refine SH.g_eqI ?_ | refine SH.g_neI ?_ | refine SH.g_eqS ?_ | refine SH.g_neS ?_
  | refine SH.g_test ?_ | refine SH.g_B ?_ | refine SH.g_isB ?_ | refine SH.g_and ?_ | refine SH.g_or ?_ | refine SH.g_not ?_ | refine SH.g_andV ?_ | refine SH.g_orV ?_ | refine SH.g_notV ?_ | refine SH.g_ifE ?_ | refine SH.g_chain ?_
  | refine SH.g_nil ?_ | refine SH.g_cons ?_ | refine SH.g_tup ?_ | refine SH.g_lst ?_ | refine SH.g_call ?_ | refine SH.g_fld ?_ | refine SH.g_meth ?_ | refine SH.g_make ?_ | refine SH.g_cb ?_ | refine SH.g_bm ?_
  | refine SH.g_seq ?_ | refine SH.g_asg ?_ | refine SH.g_name ?_ | refine SH.g_drop ?_ | refine SH.g_ret ?_ | refine SH.g_retN ?_ | refine SH.g_next ?_ | refine SH.g_brk ?_ | refine SH.g_cnt ?_ | refine SH.g_ifs ?_ | refine SH.g_par ?_ | refine SH.g_par2 ?_ | refine SH.g_fldS ?_ | refine SH.g_raise ?_ | refine SH.g_rs ?_
  | refine SH.g_sub ?_ | refine SH.g_yes ?_ | refine SH.g_sl ?_ | refine SH.g_noPart ?_ | refine SH.g_part ?_ | refine SH.g_intO ?_ | refine SH.g_dget ?_ | refine SH.g_dput ?_ | refine SH.g_forR ?_ | refine SH.g_forL ?_ | refine SH.g_forT ?_ | refine SH.g_lcR ?_ | refine SH.g_lcL ?_ | refine SH.g_lcT ?_ | refine SH.g_gcons ?_ | refine SH.g_gnil ?_
  | refine SH.br_t ?_ | refine SH.br_f ?_
  | refine SH.g_int ?_ | refine SH.g_abs ?_ | refine SH.g_max2 ?_ | refine SH.g_min2 ?_)
local macro_rules | `(tactic| walk_at "g2") => `(tactic| first
  | walk_at "g1"
  | ((with_reducible refine' SH.g_isiInt ?ga ?gz); (case ga => walk_at "kd"))
  | ((with_reducible refine' SH.g_isiBool ?ga ?gz); (case ga => walk_at "kd"))
  | ((with_reducible refine' SH.g_isiStr ?ga ?gz); (case ga => walk_at "kd"))
  | ((with_reducible refine' SH.g_isiTup ?ga ?gz); (case ga => walk_at "kd"))
  | ((with_reducible refine' SH.g_ixT ?ga ?gb ?gz); (case ga => walk_at "sq"); (case gb => rfl))
  | ((with_reducible refine' SH.g_ixL ?ga ?gb ?gz); (case ga => walk_at "sq"); (case gb => first | rfl | (apply SH.atI_refs; assumption)))
  | ((with_reducible refine SH.br_F ?_ ?_); (· decide +kernel)) | ((with_reducible refine SH.br_T ?_ ?_); (· decide +kernel)) | ((with_reducible refine SH.br_NF ?_ ?_); (· decide +kernel)) | ((with_reducible refine SH.br_NT ?_ ?_); (· decide +kernel))
  | ((with_reducible refine' SH.g_gtup ?ga ?gb ?gz); (case ga => walk_at "sq"); (case gb => rfl))
  | ((with_reducible refine' SH.g_lenT ?ga ?gz); (case ga => walk_at "sq"))
  | ((with_reducible refine' SH.g_lenL ?ga ?gz); (case ga => walk_at "sq"))
  | ((with_reducible refine SH.g_mkT (SH.sz rfl) ?_); intro _ _)
  | ((with_reducible refine SH.g_mkL (SH.sz rfl) ?_); intro _ _)
  | ((with_reducible refine SH.g_dnew ?_); intro _ _)
  | ((with_reducible refine' SH.g_tupL ?ga ?gz); (case ga => walk_at "sq"); intro _ _)
  | ((with_reducible refine' SH.g_lstL ?ga ?gz); (case ga => walk_at "sq"); intro _ _)
  | ((with_reducible refine' SH.g_lstT ?ga ?gz); (case ga => walk_at "sq"); intro _ _)
  | ((with_reducible refine' SH.g_dgR ?ga ?gb ?gz); (case ga => walk_at "hp"); (case gb => walk_at "dv"))
  | ((with_reducible refine' SH.g_fldR ?ga ?gb ?gc ?gd ?gz); (case ga => walk_at "hp"); (case gb => walk_at "cl"); (case gc => walk_at "na"); (case gd => walk_at "fv"))
  | ((with_reducible refine' SH.g_insR ?ga ?gb ?gz); (case ga => walk_at "hp"); (case gb => walk_at "fn"))
  | ((with_reducible refine' SH.g_setL ?ga ?gb ?gz); (case ga => walk_at "hp"); (case gb => rfl))
  | ((with_reducible refine SH.g_I ?_ ?_); (· walk_at "ci"))
  | ((with_reducible refine' SH.g_slL ?ga ?gz); (case ga => walk_at "sq"); intro _ _)
  | ((with_reducible refine' SH.g_cat ?ga ?gb ?gc ?gz); (case ga => walk_at "hp"); (case gb => walk_at "hp"); (case gc => walk_at "ls"); intro _ _))
/-- the side conditions of numbers: a divisor, a factor -/
local macro_rules | `(tactic| walk_at "ci") => `(tactic| first
  | (show _ ≠ _; omega) | (show _ < _; omega) | (constructor <;> omega) | (refine Or.inr ⟨?_, ?_⟩ <;> (show _ < _; omega)) | (refine Or.inl ⟨?_, ?_⟩ <;> (show _ < _; omega)) | (refine ⟨?_, ?_, ?_⟩ <;> decide))
local macro_rules | `(tactic| walk_at "ls") => `(tactic| first | (show _ ≤ _; exact Nat.le_trans (by assumption) (by decide)) | (show _ ≤ _; exact Nat.le_trans (by simp; omega) (by decide : 1000 ≤ sizeLine)))
local macro_rules | `(tactic| walk_at "dv") => `(tactic| rfl)
local macro_rules | `(tactic| walk_at "fv") => `(tactic| rfl)
local macro_rules | `(tactic| walk_at "fn") => `(tactic| rfl)
local macro_rules | `(tactic| walk_at "cl") => `(tactic| assumption)
local macro_rules | `(tactic| walk_at "na") => `(tactic| assumption)
local macro_rules | `(tactic| walk_at "go") => `(tactic| repeat walk_at "g2")
/-- a way is split -/
local macro_rules | `(tactic| walk_at "br") => `(tactic| with_reducible first
  | refine SH.br_d (fun _ => ?_) (fun _ => ?_) | refine SH.br_nd (fun _ => ?_) (fun _ => ?_) | refine SH.br_b (fun _ => ?_) (fun _ => ?_))
/-- all ways -/
local macro_rules | `(tactic| walk_at "all") => `(tactic| repeat' first | walk_at "g2" | (walk_at "br" <;> try (walk_at "no")))
/-- a truth value is the other -/
local macro_rules | `(tactic| walk_at "bq") => `(tactic| first | rfl | (simp_all; done) | (simp_all; omega) | (simp only [decide_eq_true_eq, decide_eq_false_iff_not, Bool.and_eq_true, Bool.or_eq_true] at *; omega))
/-- what was tracked is as it was -/
local macro_rules | `(tactic| walk_at "of") => `(tactic| first
  | assumption
  | exact SH.Off.refl _ _
  | (refine' SH.Off.new2 ?gx (by assumption); (case gx => walk_at "of"))
  | (refine' SH.Off.mut ?gx (by assumption); (case gx => walk_at "of"))
  | (refine' SH.Off.trans' ?gx (by assumption) ?gy; (case gy => (intro _ h; (first | exact h | (simp at h; done) | (simp at h ⊢; simp [h]; done)))); (case gx => walk_at "of")))
/-- texts -/
local macro_rules | `(tactic| walk_at "g2") => `(tactic| first
  | (with_reducible first | refine SH.br_ntt ?_ | refine SH.br_ntf ?_ | refine SH.br_k ?_ | refine SH.br_nk ?_ | refine SH.g_lcS ?_ | refine SH.g_leS ?_ | refine SH.g_niS ?_ | refine SH.g_strS ?_ | refine SH.g_tM1 ?_ | refine SH.g_isStr ?_ | refine SH.g_enL ?_ | refine SH.g_star ?_)
  | ((with_reducible refine SH.g_slS ?_ ?_); (· omega))
  | ((with_reducible refine SH.g_lenS ?_ ?_); (· omega))
  | ((with_reducible refine' SH.g_bml ?ga ?gz); (case ga => walk_at "sq")))
namespace SH
open PySem PySem.Spec PyProof.Rows L2 TL NumText
/-! ### texts bent -/
/-- texts of plain signs, n signs in all (one more for each) -/
def PtL (xs : List V) (n : Nat) : Prop := ∃ ys : List Str, xs = ys.map V.str ∧ (∀ y ∈ ys, ∀ c ∈ tl y, c < 128) ∧ (ys.map fun y => y.length + 1).sum ≤ n
theorem PtL.app {xs ys : List V} {n m : Nat} (h : PtL xs n) (k : PtL ys m) : PtL (xs ++ ys) (n + m) := by
  obtain ⟨a, rfl, a1, a2⟩ := h
  obtain ⟨b, rfl, b1, b2⟩ := k
  refine ⟨a ++ b, by rw [List.map_append], fun y hy => ?_, ?_⟩
  · rcases List.mem_append.mp hy with z | z
    · exact a1 y z
    · exact b1 y z
  · rw [List.map_append, List.sum_append]
    omega
theorem PtL.rev {xs : List V} {n : Nat} (h : PtL xs n) : PtL xs.reverse n := by
  obtain ⟨a, rfl, a1, a2⟩ := h
  refine ⟨a.reverse, by rw [List.map_reverse], fun y hy => a1 y (List.mem_reverse.mp hy), ?_⟩
  rw [List.map_reverse, List.sum_reverse]
  exact a2
theorem sum_take (l : List Nat) : ∀ n, (l.take n).sum ≤ l.sum := by
  induction l with
  | nil => intro n; simp
  | cons x l ih =>
    intro n
    cases n with
    | zero => simp
    | succ n =>
      rw [List.take_succ_cons, List.sum_cons, List.sum_cons]
      have := ih n
      omega
theorem sum_drop (l : List Nat) : ∀ n, (l.drop n).sum ≤ l.sum := by
  induction l with
  | nil => intro n; simp
  | cons x l ih =>
    intro n
    cases n with
    | zero => simp
    | succ n =>
      rw [List.drop_succ_cons, List.sum_cons]
      have := ih n
      omega
theorem PtL.cut {xs : List V} {n : Nat} (h : PtL xs n) (lo hi : Option Int) : PtL (cutV xs lo hi) n := by
  obtain ⟨a, rfl, a1, a2⟩ := h
  unfold cutV
  refine ⟨(a.drop _).take _, by rw [← List.map_drop, ← List.map_take], fun y hy => a1 y (List.mem_of_mem_drop (List.mem_of_mem_take hy)), ?_⟩
  rw [List.map_take, List.map_drop]
  exact Nat.le_trans (sum_take _ _) (Nat.le_trans (sum_drop _ _) a2)
theorem PtL.len {xs : List V} {n : Nat} (h : PtL xs n) : xs.length ≤ n := by
  obtain ⟨a, rfl, a1, a2⟩ := h
  rw [List.length_map]
  refine Nat.le_trans ?_ a2
  clear a1 a2
  induction a with
  | nil => simp
  | cons x a ih =>
    rw [List.length_cons, List.map_cons, List.sum_cons]
    omega
theorem joinL_sum (c : Nat) : ∀ ps : List (List Nat), (joinL [c] ps).length ≤ (ps.map fun p => p.length + 1).sum ∧ (ps ≠ [] → (joinL [c] ps).length + 1 = (ps.map fun p => p.length + 1).sum)
  | [] => ⟨Nat.zero_le _, fun h => absurd rfl h⟩
  | [p] => by
    show p.length ≤ _ ∧ (_ → p.length + 1 = _)
    simp
  | p :: q :: r => by
    have ih := (joinL_sum c (q :: r)).2 (by simp)
    show (p ++ ([c] ++ joinL [c] (q :: r))).length ≤ _ ∧ (_ → (p ++ ([c] ++ joinL [c] (q :: r))).length + 1 = _)
    rw [List.length_append, List.length_append, List.length_singleton, List.map_cons, List.sum_cons]
    exact ⟨by omega, fun _ => by omega⟩
/-- joined by line ends -/
theorem PtL.join {xs : List V} {n : Nat} (h : PtL xs n) : ∃ ys : List Str, xs = ys.map V.str ∧ (ys.map (·.length)).sum + ys.length * ("\n" : Str).length ≤ n ∧ PlT (Txt.join "\n" ys) n := by
  obtain ⟨a, rfl, a1, a2⟩ := h
  refine ⟨a, rfl, ?_, ?_, ?_⟩
  · rw [show ("\n" : Str).length = 1 by rw [len_tl, tl_nl]; rfl, Nat.mul_one]
    refine Nat.le_trans (Nat.le_of_eq ?_) a2
    clear a1 a2
    induction a with
    | nil => rfl
    | cons x a ih =>
      simp only [List.map_cons, List.sum_cons, List.length_cons]
      omega
  · rw [len_tl, join_eq, tl_join, tl_nl]
    refine Nat.le_trans (joinL_sum 10 _).1 (Nat.le_trans (Nat.le_of_eq ?_) a2)
    rw [List.map_map]
    rfl
  · intro c hc
    rw [join_eq, tl_join, tl_nl] at hc
    rcases join_mem _ hc with z | ⟨p, hp, z⟩
    · have := List.mem_singleton.mp z
      omega
    · obtain ⟨y, hy, rfl⟩ := List.mem_map.mp hp
      exact a1 y hy c z
theorem PtL.lines {z : Str} {n : Nat} (h : PlT z n) : PtL ((Txt.split z "\n").map V.str) (n + 1) ∧ Txt.split z "\n" ≠ [] := by
  obtain ⟨s1, s2⟩ := split_ok h nl_ok.1 nl_ok.2.1
  refine ⟨⟨_, rfl, fun y hy => (s1 y hy).sg, ?_⟩, s2⟩
  have e := split_spl z "\n" nl_ok.1 (kind_ok nl_ok.2.1)
  rw [tl_nl] at e
  have ej := join_spl 10 (tl z) []
  rw [← e, List.nil_append] at ej
  have hs := (joinL_sum 10 ((Txt.split z "\n").map tl)).2 (by simpa using s2)
  rw [ej, List.map_map] at hs
  have e2 : (Txt.split z "\n").map (fun y => y.length + 1) = (Txt.split z "\n").map ((fun p : List Nat => p.length + 1) ∘ tl) := List.map_congr_left fun y _ => by
    show _ = (tl y).length + 1
    rw [← len_tl]
  have hl := h.len
  rw [len_tl] at hl
  rw [e2, ← hs]
  exact Nat.succ_le_succ hl
theorem len_app (a b : Str) : (a ++ b).length = a.length + b.length := by rw [len_tl, len_tl, len_tl, tl_append, List.length_append]
theorem PlT.app {a b : Str} {n m : Nat} (h : PlT a n) (k : PlT b m) : PlT (a ++ b) (n + m) := by
  have e : tl (a ++ b) = tl a ++ tl b := tl_append a b
  refine ⟨?_, fun c hc => ?_⟩
  · have h1 := h.len
    have h2 := k.len
    rw [len_tl] at h1 h2 ⊢
    rw [e, List.length_append]
    omega
  · rw [e] at hc
    rcases List.mem_append.mp hc with z | z
    · exact h.sg c z
    · exact k.sg c z
theorem PlT.cut {z : Str} {n : Nat} (h : PlT z n) (lo hi : Option Int) : PlT (cutS z lo hi) n := by
  refine ⟨Nat.le_trans (cutS_length _ _ _) h.len, fun c hc => h.sg c ?_⟩
  have hc' : c ∈ (((tl z).drop (HT.sIx z.length 0 lo)).take (HT.sIx z.length z.length hi - HT.sIx z.length 0 lo)) := hc
  exact List.mem_of_mem_drop (List.mem_of_mem_take hc')
def sg1B (z : Str) : Bool := decide ((tl z).length ≤ 1) && (tl z).all (· < 128)
theorem sg1 {z : Str} (h : sg1B z = true) : PlT z 1 := by
  unfold sg1B at h
  simp only [Bool.and_eq_true, decide_eq_true_eq, List.all_eq_true] at h
  exact ⟨by rw [len_tl]; exact h.1, h.2⟩
section
variable {K : PySem.W.Frag} {H : Hp} {Q : VK} {σ : L2.St}
def rAddS : R2 := fun x y H Q => ∃ i j, x = .str i ∧ y = .str j ∧ i.length + j.length ≤ sizeLine ∧ Q (.str (i ++ j)) H
theorem op_addS {X : Cx} : OpR X (binaryOp .Add) rAddS := op_add_str
theorem g_addS {i j : Str} (h : i.length + j.length ≤ sizeLine) (q : Q (.str (i ++ j)) H) : rAddS (.str i) (.str j) H Q := ⟨i, j, rfl, rfl, h, q⟩
def rRev (K : PySem.W.Frag) : V → Hp → VK → Prop := fun x H1 Q => ∃ a xs, x = .ref a ∧ SqL K H1 a xs ∧ ∀ p, H1 p = none → Q (.ref p) (upd H1 p (.lst xs.reverse))
theorem pe_revLK {X : Cx} {e : Expr} {te : TE} {k : Nat} {p1 p2 p3 pos : Pos} (hK : X.K = K) (he : PE X e te) : PE X (.Subscript e (.Slice none none (some (.UnaryOp .USub (.Constant (.int 1) k p1) p2)) p3) pos) (tRevL K te) := by
  subst hK
  exact pe_revL he
theorem g_revL {te : TE} (q : te σ H fun x H1 => rRev K x H1 Q) : tRevL K te σ H Q := q
theorem g_rev {a : Addr} {xs : List V} (h : SqL K H a xs) (q : ∀ p, H p = none → Q (.ref p) (upd H p (.lst xs.reverse))) : rRev K (.ref a) H Q := ⟨a, xs, rfl, h, q⟩
end
def spBent : Sp := fun vs H Q _ => ∃ a c z, vs = [.ref a, .str z] ∧ DiceAt H a c ∧ c ≤ 999999000 ∧ PlT z 300 ∧ ∀ y H', PlT y 1000 → DiceAt H' a (c + 4) → Off [a] H H' → Q (.str y) H'
local macro_rules | `(tactic| walk_at "g2") => `(tactic| first
  | (with_reducible first | refine SH.g_revL ?_)
  | ((with_reducible refine SH.g_addS ?_ ?_); (· (first | omega | (rw [SH.len_app]; omega)))))
section
variable {P : Program} {w : World} {K : PySem.W.Frag} {mg : Str → Option Value} {base : Heap}
theorem ok_law_bent (T : Txt P w K mg) : DefOk P w K mg base "_law_bent" 3 ["dice", "text"] spBent := by
  refine T.d_law_bent.ok sc_law_bent (fun _ _ _ _ _ _ us hl => match us, hl with | [_, _], _ => rfl) (fun vs H Q E h => ?_) (fun f cdv A outer s H vs Q E hr h => ?_)
  · obtain ⟨a, c, z, rfl, _⟩ := h
    rfl
  · obtain ⟨a, c, z, rfl, hd, hc, hz, k⟩ := h
    have hsz := sizeLine_eq
    have hzl := hz.len
    have hcl := cutS_length z
    have hcp := hz.cut
    have B := T.blt
    have hu := hu_of hr
    have G_law_roll := ok_law_roll (base := base) T
    have G_law_pick := ok_law_pick (base := base) T
    refine ⟨_, (pss_cut (ps_par (i := 2) (j := 3) (by rfl) sc_law_bent.nd rfl rfl (by decide) rfl rfl (pa_cons (pe_splitS (pv 1) pe_str) (pa_cons (pe_df G_law_roll (hr.mono (by decide)) (L2N.passes_call (L2N.takes_of rfl rfl rfl rfl) fun _ _ _ _ z => z) (pa_cons (pv 0) (pa_cons (pe_op op_add (pe_callB c_lenS (by rfl) B.b_len PySem.boot_len (pa_cons (pv 1) pa_nil)) pe_int) pa_nil))) pa_nil)) (by rfl))
  (pss_cut (ps_set (i := 4) sc_law_bent.nd rfl (by first | exact Or.inl rfl | exact Or.inr rfl) (pe_df G_law_roll (hr.mono (by decide)) (L2N.passes_call (L2N.takes_of rfl rfl rfl rfl) fun _ _ _ _ z => z) (pa_cons (pv 0) (pa_cons (pe_callB (c_lenK (K := K) rfl) (by rfl) B.b_len PySem.boot_len (pa_cons (pv 2) pa_nil)) pa_nil))))
  (pss_cut (ps_set (i := 5) sc_law_bent.nd rfl (by first | exact Or.inl rfl | exact Or.inr rfl) (pe_lst (pa_cons (pe_op op_addS (pe_op op_addS (pe_slice sl_str (pv 1) po_none (po_some (pv 3))) (pe_df G_law_pick (hr.mono (by decide)) (L2N.passes_call (L2N.takes_of rfl rfl rfl rfl) fun _ _ _ _ z => z) (pa_cons (pv 0) (pa_cons (pe_lst (pa_cons pe_str (pa_cons pe_str (pa_cons pe_str (pa_cons pe_str (pa_cons pe_str (pa_cons pe_str (pa_cons pe_str (pa_cons pe_str (pa_cons pe_str (pa_cons pe_str pa_nil))))))))))) pa_nil)))) (pe_slice sl_str (pv 1) (po_some (pv 3)) po_none)) (pa_cons (pe_op op_addS (pe_slice sl_str (pv 1) po_none (po_some (pv 3))) (pe_slice sl_str (pv 1) (po_some (pe_op op_add (pv 3) pe_int)) po_none)) (pa_cons (pe_op op_addS (pv 1) pe_str) (pa_cons (pe_op op_addS pe_str (pv 1)) pa_nil))))))
  (pss_cut (ps_set (i := 5) sc_law_bent.nd rfl (by first | exact Or.inl rfl | exact Or.inr rfl) (pe_op op_cat (pv 5) (pe_lst (pa_cons (pe_joinS (K := K) rfl pe_str (pe_op op_cat (pe_slice (sl_listK (K := K) rfl) (pv 2) po_none (po_some (pv 4))) (pe_slice (sl_listK (K := K) rfl) (pv 2) (po_some (pe_op op_add (pv 4) pe_int)) po_none))) (pa_cons (pe_joinS (K := K) rfl pe_str (pe_op op_cat (pe_op op_cat (pe_slice (sl_listK (K := K) rfl) (pv 2) po_none (po_some (pv 4))) (pe_slice (sl_listK (K := K) rfl) (pv 2) (po_some (pv 4)) (po_some (pe_op op_add (pv 4) pe_int)))) (pe_slice (sl_listK (K := K) rfl) (pv 2) (po_some (pv 4)) po_none))) (pa_cons (pe_joinS (K := K) rfl pe_str (pe_revLK (K := K) rfl (pv 2))) (pa_cons pe_str (pa_cons (pe_op op_addS pe_str (pv 1)) pa_nil))))))))
  (pss_one (ps_ret (pe_df G_law_pick (hr.mono (by decide)) (L2N.passes_call (L2N.takes_of rfl rfl rfl rfl) fun _ _ _ _ z => z) (pa_cons (pv 0) (pa_cons (pv 5) pa_nil))))))))), ?_⟩
    obtain ⟨lp, ln⟩ := PtL.lines hz
    have ll := lp.len
    have ll0 : 0 < ((Txt.split z "\n").map V.str).length := by
      rw [List.length_map]
      exact List.length_pos_iff.mpr ln
    generalize hls : (Txt.split z "\n").map V.str = ls at *
    refine g_cut (fun σ' H' => ∃ (L : Addr) (i : Int), σ' = [some (.ref a), some (.str z), some (.ref L), some (.int i), none, none] ∧ 0 ≤ i ∧ H' L = some (.lst ls) ∧ a ≠ L ∧ DiceAt H' a (c + 1) ∧ Off [a] H H') ?_ ?_
    · walk_at "go"
      refine g_split (by kernel_rfl) (by omega) fun L hL => ?_
      walk_at "go"
      have ne : a ≠ L := by
        rintro rfl
        obtain ⟨x, y, z, e, _⟩ := hd
        rw [hL] at e
        cases e
      rw [hls]
      refine ⟨a, _, c, rfl, hd.off (Off.new hL) nin_nil, by omega, by omega, by omega, fun r1 H1 r1a r1b d1 o1 => ?_⟩
      walk_at "go"
      exact ⟨_, _, rfl, L, r1, rfl, r1a, o1.at (by simpa using fun e => ne e.symm) upd_same, ne, d1, ((Off.new hL).mono fun _ h => absurd h nin_nil).trans o1⟩
    rintro σ' H1 ⟨L, i, rfl, hi, hL, ne, hd1, o1⟩
    refine g_cut (fun σ' H' => ∃ (j : Int), σ' = [some (.ref a), some (.str z), some (.ref L), some (.int i), some (.int j), none] ∧ 0 ≤ j ∧ H' L = some (.lst ls) ∧ DiceAt H' a (c + 2) ∧ Off [a] H1 H') ?_ ?_
    · walk_at "go"
      refine ⟨a, _, c + 1, rfl, hd1, by omega, by omega, by omega, fun r1 H2 r1a r1b d1 o2 => ?_⟩
      walk_at "go"
      exact ⟨r1, rfl, r1a, o2.at (by simpa using fun e => ne e.symm) hL, by rw [show c + 2 = c + 1 + 1 by omega]; exact d1, o2⟩
    rintro σ' H2 ⟨j, rfl, hj, hL2, hd2, o2⟩
    refine g_cut (fun σ' H' => ∃ D s1 s2 s3 s4, σ' = [some (.ref a), some (.str z), some (.ref L), some (.int i), some (.int j), some (.ref D)] ∧ H' D = some (.lst [.str s1, .str s2, .str s3, .str s4]) ∧ (∀ y ∈ [s1, s2, s3, s4], PlT y 1000) ∧ H' L = some (.lst ls) ∧ DiceAt H' a (c + 3) ∧ Off [a] H2 H') ?_ ?_
    · walk_at "go"
      rename_i p hp
      have nep : a ≠ p := by
        rintro rfl
        obtain ⟨x, y, z, e, _⟩ := hd2
        rw [hp] at e
        cases e
      refine ⟨a, p, c + 2, _, rfl, hd2.off (Off.new hp) nin_nil, by omega, .of upd_same, by simp, by simp, nep, fun v H3 hv d3 o3 => ?_⟩
      have hs : ∃ s, v = .str s ∧ PlT s 1 := by
        simp only [List.mem_cons, List.not_mem_nil, or_false] at hv
        rcases hv with rfl | rfl | rfl | rfl | rfl | rfl | rfl | rfl | rfl | rfl
        all_goals exact ⟨_, rfl, sg1 (by kernel_rfl)⟩
      obtain ⟨s, rfl, hs⟩ := hs
      have hsl := hs.len
      have a1 := hcl none (some i)
      have a2 := hcl (some i) none
      have a3 := hcl (some (i + 1)) none
      have l1 : ("\n" : Str).length = 1 := by rw [len_tl, tl_nl]; rfl
      have l2 : (" " : Str).length = 1 := by rw [len_tl, tl_sp]; rfl
      walk_at "go"
      rename_i D hD
      refine ⟨D, _, _, _, _, rfl, upd_same, ?_, upd_new (o3.at (by simpa using fun e => ne e.symm) (upd_new hL2 hp)) hD, by rw [show c + 3 = c + 2 + 1 by omega]; exact d3.off (Off.new hD) nin_nil, ?_⟩
      · intro y hy
        simp only [List.mem_cons, List.not_mem_nil, or_false] at hy
        rcases hy with rfl | rfl | rfl | rfl
        · exact (((hcp _ _).app hs).app (hcp _ _)).mono (by decide)
        · exact ((hcp _ _).app (hcp _ _)).mono (by decide)
        · exact (hz.app (sg1 (by kernel_rfl))).mono (by decide)
        · exact ((sg1 (by kernel_rfl)).app hz).mono (by decide)
      · exact (((Off.new hp).mono fun _ h => absurd h nin_nil).trans o3).trans ((Off.new hD).mono fun _ h => absurd h nin_nil)
    rintro σ' H3 ⟨D, s1, s2, s3, s4, rfl, hD, hs, hL3, hd3, o3⟩
    refine g_cut (fun σ' H' => ∃ G zs, σ' = [some (.ref a), some (.str z), some (.ref L), some (.int i), some (.int j), some (.ref G)] ∧ H' G = some (.lst zs) ∧ (∀ x ∈ zs, ∃ y, x = .str y ∧ PlT y 1000) ∧ 0 < zs.length ∧ zs.length < 1000 ∧ DiceAt H' a (c + 3) ∧ Off [] H3 H') ?_ ?_
    · have p1 := lp.cut none (some j)
      have p2 := lp.cut (some (j + 1)) none
      have p3 := lp.cut (some j) (some (j + 1))
      have p4 := lp.cut (some j) none
      have q1 := p1.app p2
      have q2 := (p1.app p3).app p4
      have q3 := lp.rev
      have b1 := p1.len
      have b2 := p2.len
      have b3 := p3.len
      have b4 := p4.len
      obtain ⟨ys1, ey1, sy1, jy1⟩ := q1.join
      obtain ⟨ys2, ey2, sy2, jy2⟩ := q2.join
      obtain ⟨ys3, ey3, sy3, jy3⟩ := q3.join
      have la1 := List.length_append (as := cutV ls none (some j)) (bs := cutV ls (some j) (some (j + 1)))
      walk_at "go"
      rename_i r1 h1 r2 h2
      refine g_cat (upd_new upd_same h2) upd_same (by omega) fun r3 h3 => ?_
      refine g_join (ys := ys1) (.of (by rw [← ey1]; exact upd_same)) (by omega) ?_
      obtain ⟨H4, e4⟩ : ∃ H' : Hp, H' = upd (upd (upd H3 r1 (.lst (cutV ls none (some j)))) r2 (.lst (cutV ls (some (j + 1)) none))) r3 (.lst (cutV ls none (some j) ++ cutV ls (some (j + 1)) none)) := ⟨_, rfl⟩
      rw [← e4]
      have hL4 : H4 L = some (.lst ls) := by rw [e4]; exact upd_new (upd_new (upd_new hL3 h1) h2) h3
      have o4 : Off [] H3 H4 := by rw [e4]; exact ((Off.new h1).new2 h2).new2 h3
      clear e4 h3 h2 h1
      walk_at "go"
      rename_i r1 h1 r2 h2
      refine g_cat (upd_new upd_same h2) upd_same (by omega) fun r3 h3 => ?_
      walk_at "go"
      rename_i r4 h4
      refine g_cat (upd_new upd_same h4) upd_same (by omega) fun r5 h5 => ?_
      refine g_join (ys := ys2) (.of (by rw [← ey2]; exact upd_same)) (by omega) ?_
      obtain ⟨H5, e5⟩ : ∃ H' : Hp, H' = upd (upd (upd (upd (upd H4 r1 (.lst (cutV ls none (some j)))) r2 (.lst (cutV ls (some j) (some (j + 1))))) r3 (.lst (cutV ls none (some j) ++ cutV ls (some j) (some (j + 1))))) r4 (.lst (cutV ls (some j) none))) r5 (.lst (cutV ls none (some j) ++ cutV ls (some j) (some (j + 1)) ++ cutV ls (some j) none)) := ⟨_, rfl⟩
      rw [← e5]
      have hL5 : H5 L = some (.lst ls) := by rw [e5]; exact upd_new (upd_new (upd_new (upd_new (upd_new hL4 h1) h2) h3) h4) h5
      have o5 : Off [] H3 H5 := by rw [e5]; exact (((((o4.new2 h1).new2 h2).new2 h3).new2 h4).new2 h5)
      clear e5 h5 h4 h3 h2 h1
      walk_at "go"
      refine g_rev (.of hL5) fun r1 h1 => ?_
      refine g_join (ys := ys3) (.of (by rw [← ey3]; exact upd_same)) (by omega) ?_
      obtain ⟨H6, e6⟩ : ∃ H' : Hp, H' = upd H5 r1 (.lst ls.reverse) := ⟨_, rfl⟩
      rw [← e6]
      have hL6 : H6 L = some (.lst ls) := by rw [e6]; exact upd_new hL5 h1
      have o6 : Off [] H3 H6 := by rw [e6]; exact o5.new2 h1
      have hD6 : H6 D = some (.lst [.str s1, .str s2, .str s3, .str s4]) := o6.at nin_nil hD
      clear e6 h1
      have l3 : ("-" : Str).length = 1 := by rw [len_tl, tl_minus]; rfl
      walk_at "go"
      rename_i r1 h1
      refine g_cat (upd_new hD6 h1) upd_same (by simp; omega) fun r2 h2 => ?_
      walk_at "go"
      refine ⟨r2, _, rfl, upd_same, ?_, by simp, by simp, (hd3.off o6 nin_nil).off ((Off.new h1).new2 h2) nin_nil, (o6.new2 h1).new2 h2⟩
      intro x hx
      simp only [List.mem_append, List.mem_cons, List.not_mem_nil, or_false] at hx
      rcases hx with (rfl | rfl | rfl | rfl) | rfl | rfl | rfl | rfl | rfl
      · exact ⟨_, rfl, hs _ (by simp)⟩
      · exact ⟨_, rfl, hs _ (by simp)⟩
      · exact ⟨_, rfl, hs _ (by simp)⟩
      · exact ⟨_, rfl, hs _ (by simp)⟩
      · exact ⟨_, rfl, jy1.mono (by decide)⟩
      · exact ⟨_, rfl, jy2.mono (by decide)⟩
      · exact ⟨_, rfl, jy3.mono (by decide)⟩
      · exact ⟨_, rfl, (sg1 (by kernel_rfl)).mono (by decide)⟩
      · exact ⟨_, rfl, ((sg1 (by kernel_rfl)).app hz).mono (by decide)⟩
    rintro σ' H4 ⟨G, zs, rfl, hG, hzs, h0, h9, hd4, o4⟩
    walk_at "go"
    have neg : a ≠ G := by
      rintro rfl
      obtain ⟨x, y, z, e, _⟩ := hd4
      rw [hG] at e
      have := HO.lst.inj (Option.some.inj e)
      obtain ⟨y, hy, _⟩ := hzs (.int x) (by rw [this]; simp)
      cases hy
    refine ⟨a, G, c + 3, zs, rfl, hd4, by omega, .of hG, h0, h9, neg, fun v H5 hv d5 o5 => ?_⟩
    obtain ⟨y, rfl, hy⟩ := hzs v hv
    exact k y H5 hy (by rw [show c + 4 = c + 3 + 1 by omega]; exact d5) (((o1.trans o2).trans o3).trans ((o4.mono fun _ h => absurd h nin_nil).trans o5))
end
end SH
end

section
/-! #### the walk's words -/
local macro_rules | `(tactic| walk_at "ne0") => `(tactic| first
  | assumption
  | (refine Ne.symm ?_; assumption))
local macro_rules | `(tactic| walk_at "ne") => `(tactic| first
  | assumption
  | (refine Ne.symm ?_; assumption)
  | (refine' L2.ne_of_none ?gx (by assumption); (case gx => walk_at "hp"))
  | (refine' Ne.symm (L2.ne_of_none ?gx (by assumption)); (case gx => walk_at "hp")))
local macro_rules | `(tactic| walk_at "hp") => `(tactic| first
  | assumption
  | exact L2.upd_same
  | (refine' SH.upd_new ?gh (by assumption); (case gh => walk_at "hp"))
  | (refine' (L2.upd_ne ?gn).trans ?gh; (case gn => walk_at "ne0"); (case gh => walk_at "hp"))
  | (refine' SH.Off.at (by assumption) ?gn ?gh; (case gn => walk_at "nin"); (case gh => walk_at "hp")))
local macro_rules | `(tactic| walk_at "nin") => `(tactic| first
  | exact SH.nin_nil
  | (refine SH.nin_cons ?_ ?_; (· walk_at "ne0"); (· walk_at "nin")))
local macro_rules | `(tactic| walk_at "sq") => `(tactic| first
  | assumption
  | (apply L2.SqL.of; (· walk_at "hp"))
  | (apply L2.SqT.of; (· walk_at "hp"))
  | (refine' SH.seqT_new ?gx (by assumption); (case gx => walk_at "sq"))
  | (refine' SH.seqL_new ?gx (by assumption); (case gx => walk_at "sq"))
  | (refine' SH.Off.seqT (by assumption) ?gx; (case gx => walk_at "sq"))
  | (refine' SH.Off.seqL (by assumption) ?gy ?gx; (case gx => walk_at "sq"); (case gy => walk_at "nin")))
local macro_rules | `(tactic| walk_at "kd") => `(tactic| first
  | assumption | exact SH.KdV.int _ | exact SH.KdV.bl _ | exact SH.KdV.str _ | exact SH.KdV.non
  | (apply SH.KdV.tup; (· walk_at "sq")) | (apply SH.KdV.lst; (· walk_at "sq")))
/-- a way that cannot be -/
local macro_rules | `(tactic| walk_at "no") => `(tactic| (exfalso; first | assumption | omega | contradiction | (simp_all; done)))
/-- one step -/
local macro_rules | `(tactic| walk_at "g1") => `(tactic| with_reducible first
  | refine SH.g_var (by with_unfolding_all rfl) ?_ | refine SH.g_c ?_ | refine SH.g_op ?_ | refine SH.g_un ?_ | refine SH.g_I0 ?_ | refine SH.g_U ?_
  | refine SH.g_eqI ?_ | refine SH.g_neI ?_ | refine SH.g_eqS ?_ | refine SH.g_neS ?_
  | refine SH.g_test ?_ | refine SH.g_B ?_ | refine SH.g_isB ?_ | refine SH.g_and ?_ | refine SH.g_or ?_ | refine SH.g_not ?_ | refine SH.g_andV ?_ | refine SH.g_orV ?_ | refine SH.g_notV ?_ | refine SH.g_ifE ?_ | refine SH.g_chain ?_
  | refine SH.g_nil ?_ | refine SH.g_cons ?_ | refine SH.g_tup ?_ | refine SH.g_lst ?_ | refine SH.g_call ?_ | refine SH.g_fld ?_ | refine SH.g_meth ?_ | refine SH.g_make ?_ | refine SH.g_cb ?_ | refine SH.g_bm ?_
  | refine SH.g_seq ?_ | refine SH.g_asg ?_ | refine SH.g_name ?_ | refine SH.g_drop ?_ | refine SH.g_ret ?_ | refine SH.g_retN ?_ | refine SH.g_next ?_ | refine SH.g_brk ?_ | refine SH.g_cnt ?_ | refine SH.g_ifs ?_ | refine SH.g_par ?_ | refine SH.g_par2 ?_ | refine SH.g_fldS ?_ | refine SH.g_raise ?_ | refine SH.g_rs ?_
  | refine SH.g_sub ?_ | refine SH.g_yes ?_ | refine SH.g_sl ?_ | refine SH.g_noPart ?_ | refine SH.g_part ?_ | refine SH.g_intO ?_ | refine SH.g_dget ?_ | refine SH.g_dput ?_ | refine SH.g_forR ?_ | refine SH.g_forL ?_ | refine SH.g_forT ?_ | refine SH.g_lcR ?_ | refine SH.g_lcL ?_ | refine SH.g_lcT ?_ | refine SH.g_gcons ?_ | refine SH.g_gnil ?_
  | refine SH.br_t ?_ | refine SH.br_f ?_
  | refine SH.g_int ?_ | refine SH.g_abs ?_ | refine SH.g_max2 ?_ | refine SH.g_min2 ?_)
local macro_rules | `(tactic| walk_at "g2") => `(tactic| first
  | walk_at "g1"
  | ((with_reducible refine' SH.g_isiInt ?ga ?gz); (case ga => walk_at "kd"))
  | ((with_reducible refine' SH.g_isiBool ?ga ?gz); (case ga => walk_at "kd"))
  | ((with_reducible refine' SH.g_isiStr ?ga ?gz); (case ga => walk_at "kd"))
  | ((with_reducible refine' SH.g_isiTup ?ga ?gz); (case ga => walk_at "kd"))
  | ((with_reducible refine' SH.g_ixT ?ga ?gb ?gz); (case ga => walk_at "sq"); (case gb => rfl))
  | ((with_reducible refine' SH.g_ixL ?ga ?gb ?gz); (case ga => walk_at "sq"); (case gb => first | rfl | (apply SH.atI_refs; assumption)))
  | ((with_reducible refine SH.br_F ?_ ?_); (· decide +kernel)) | ((with_reducible refine SH.br_T ?_ ?_); (· decide +kernel)) | ((with_reducible refine SH.br_NF ?_ ?_); (· decide +kernel)) | ((with_reducible refine SH.br_NT ?_ ?_); (· decide +kernel))
  | ((with_reducible refine' SH.g_gtup ?ga ?gb ?gz); (case ga => walk_at "sq"); (case gb => rfl))
  | ((with_reducible refine' SH.g_lenT ?ga ?gz); (case ga => walk_at "sq"))
  | ((with_reducible refine' SH.g_lenL ?ga ?gz); (case ga => walk_at "sq"))
  | ((with_reducible refine SH.g_mkT (SH.sz rfl) ?_); intro _ _)
  | ((with_reducible refine SH.g_mkL (SH.sz rfl) ?_); intro _ _)
  | ((with_reducible refine SH.g_dnew ?_); intro _ _)
  | ((with_reducible refine' SH.g_tupL ?ga ?gz); (case ga => walk_at "sq"); intro _ _)
  | ((with_reducible refine' SH.g_lstL ?ga ?gz); (case ga => walk_at "sq"); intro _ _)
  | ((with_reducible refine' SH.g_lstT ?ga ?gz); (case ga => walk_at "sq"); intro _ _)
  | ((with_reducible refine' SH.g_dgR ?ga ?gb ?gz); (case ga => walk_at "hp"); (case gb => walk_at "dv"))
  | ((with_reducible refine' SH.g_fldR ?ga ?gb ?gc ?gd ?gz); (case ga => walk_at "hp"); (case gb => walk_at "cl"); (case gc => walk_at "na"); (case gd => walk_at "fv"))
  | ((with_reducible refine' SH.g_insR ?ga ?gb ?gz); (case ga => walk_at "hp"); (case gb => walk_at "fn"))
  | ((with_reducible refine' SH.g_setL ?ga ?gb ?gz); (case ga => walk_at "hp"); (case gb => rfl))
  | ((with_reducible refine SH.g_I ?_ ?_); (· walk_at "ci"))
  | ((with_reducible refine' SH.g_slL ?ga ?gz); (case ga => walk_at "sq"); intro _ _)
  | ((with_reducible refine' SH.g_cat ?ga ?gb ?gc ?gz); (case ga => walk_at "hp"); (case gb => walk_at "hp"); (case gc => walk_at "ls"); intro _ _))
/-- the side conditions of numbers: a divisor, a factor -/
local macro_rules | `(tactic| walk_at "ci") => `(tactic| first
  | (show _ ≠ _; omega) | (show _ < _; omega) | (constructor <;> omega) | (refine Or.inr ⟨?_, ?_⟩ <;> (show _ < _; omega)) | (refine Or.inl ⟨?_, ?_⟩ <;> (show _ < _; omega)) | (refine ⟨?_, ?_, ?_⟩ <;> decide))
local macro_rules | `(tactic| walk_at "ls") => `(tactic| first | (show _ ≤ _; exact Nat.le_trans (by assumption) (by decide)) | (show _ ≤ _; exact Nat.le_trans (by simp; omega) (by decide : 1000 ≤ sizeLine)))
local macro_rules | `(tactic| walk_at "dv") => `(tactic| rfl)
local macro_rules | `(tactic| walk_at "fv") => `(tactic| rfl)
local macro_rules | `(tactic| walk_at "fn") => `(tactic| rfl)
local macro_rules | `(tactic| walk_at "cl") => `(tactic| assumption)
local macro_rules | `(tactic| walk_at "na") => `(tactic| assumption)
local macro_rules | `(tactic| walk_at "go") => `(tactic| repeat walk_at "g2")
/-- a way is split -/
local macro_rules | `(tactic| walk_at "br") => `(tactic| with_reducible first
  | refine SH.br_d (fun _ => ?_) (fun _ => ?_) | refine SH.br_nd (fun _ => ?_) (fun _ => ?_) | refine SH.br_b (fun _ => ?_) (fun _ => ?_))
/-- all ways -/
local macro_rules | `(tactic| walk_at "all") => `(tactic| repeat' first | walk_at "g2" | (walk_at "br" <;> try (walk_at "no")))
/-- a truth value is the other -/
local macro_rules | `(tactic| walk_at "bq") => `(tactic| first | rfl | (simp_all; done) | (simp_all; omega) | (simp only [decide_eq_true_eq, decide_eq_false_iff_not, Bool.and_eq_true, Bool.or_eq_true] at *; omega))
/-- what was tracked is as it was -/
local macro_rules | `(tactic| walk_at "of") => `(tactic| first
  | assumption
  | exact SH.Off.refl _ _
  | (refine' SH.Off.new2 ?gx (by assumption); (case gx => walk_at "of"))
  | (refine' SH.Off.mut ?gx (by assumption); (case gx => walk_at "of"))
  | (refine' SH.Off.trans' ?gx (by assumption) ?gy; (case gy => (intro _ h; (first | exact h | (simp at h; done) | (simp at h ⊢; simp [h]; done)))); (case gx => walk_at "of")))
namespace SH
open PySem PySem.Spec PyProof.Rows L2 TL NumText
def numZ (w : Str) : Int := match numW 9 (tl w) with
  | some n => (n : Int)
  | none => -1
/-- the bounds of a step's numbers, by its first word -/
def bndW (w : Str) : List (Int × Int) := if w = "tick" then [] else if w = "tell" then [(0, 4)] else if w = "hear" then [(0, 4)] else if w = "land" then [(0, 4), (1, 20)] else if w = "trade" then [(0, 4), (0, 4), (1, 500)] else List.replicate 9 (1, 0)
def inPair : List Int → List (Int × Int) → Bool
  | [], [] => true
  | p :: ps, b :: bs => (decide (b.1 ≤ p) && decide (p ≤ b.2)) && inPair ps bs
  | _, _ => false
def okDue (w0 : Str) (ws : List Str) : Bool := inPair (ws.map numZ) (bndW w0) && !(decide (w0 = "trade") && decide ((ws.map numZ)[0]? = (ws.map numZ)[1]?))
theorem nz_in {w : Str} {lo hi : Int} (h0 : 0 ≤ lo) : (decide (lo ≤ numZ w) && decide (numZ w ≤ hi)) = inB lo hi (iwV 9 w) := by
  rw [iw_in (by decide) h0]
  unfold numZ
  cases numW 9 (tl w) with
  | some n => rfl
  | none =>
    show (decide (lo ≤ -1) && _) = false
    rw [decide_eq_false (by omega), Bool.false_and]
theorem nz_val {w : Str} {lo hi : Int} (h0 : 0 ≤ lo) (h : inB lo hi (iwV 9 w) = true) : iwV 9 w = .int (numZ w) := by
  rw [iw_in (by decide) h0] at h
  unfold numZ
  cases e : numW 9 (tl w) with
  | some n => exact iw_num (by decide) e
  | none => rw [e] at h; cases h
theorem due_ok (w0 : Str) (ws : List Str) : okDue w0 ws = stepB (.str w0 :: ws.map (iwV 9)) 5 := by
  have i5 : ((5 : Int) - 1) = 4 := by decide
  unfold okDue bndW
  by_cases h1 : w0 = "tick"
  · subst h1
    cases ws with
    | nil => kernel_rfl
    | cons a r =>
      simp [inPair, stepB]
  rw [if_neg h1]
  have st : ∀ rest, stepB (.str w0 :: rest) 5 = match rest with
      | [] => false
      | b :: rest2 => inB 0 (5 - 1) b && (if w0 = "tell" ∨ w0 = "hear" then decide (rest2.length = 0) else if w0 = "land" then (match rest2 with | [k] => inB 1 20 k | _ => false)
        else if w0 = "trade" then (match rest2 with | [t, k] => inB 0 (5 - 1) t && !decide (b = t) && inB 1 500 k | _ => false) else false) := fun rest => by
    show (if w0 = "tick" then decide (rest.length = 0) else _) = _
    exact (if_neg h1).trans rfl
  rw [st, i5]
  by_cases h2 : w0 = "tell"
  · subst h2
    have n4 : ¬ ("tell" : Str) = "trade" := by decide +kernel
    rw [if_pos rfl, decide_eq_false n4, Bool.false_and, Bool.not_false, Bool.and_true]
    match ws with
    | [] => rfl
    | [a] =>
      show ((decide ((0 : Int) ≤ numZ a) && decide (numZ a ≤ 4)) && true) = (inB 0 4 (iwV 9 a) && _)
      rw [nz_in (by decide), if_pos (.inl rfl)]
      rfl
    | a :: b :: r =>
      show ((decide ((0 : Int) ≤ numZ a) && decide (numZ a ≤ 4)) && false) = (inB 0 4 (iwV 9 a) && _)
      rw [if_pos (.inl rfl), Bool.and_false]
      exact (Bool.and_false _).symm
  rw [if_neg h2]
  by_cases h3 : w0 = "hear"
  · subst h3
    have n4 : ¬ ("hear" : Str) = "trade" := by decide +kernel
    rw [if_pos rfl, decide_eq_false n4, Bool.false_and, Bool.not_false, Bool.and_true]
    match ws with
    | [] => rfl
    | [a] =>
      show ((decide ((0 : Int) ≤ numZ a) && decide (numZ a ≤ 4)) && true) = (inB 0 4 (iwV 9 a) && _)
      rw [nz_in (by decide), if_pos (.inr rfl)]
      rfl
    | a :: b :: r =>
      show ((decide ((0 : Int) ≤ numZ a) && decide (numZ a ≤ 4)) && false) = (inB 0 4 (iwV 9 a) && _)
      rw [if_pos (.inr rfl), Bool.and_false]
      exact (Bool.and_false _).symm
  have hth : ¬ (w0 = "tell" ∨ w0 = "hear") := fun h => h.elim h2 h3
  rw [if_neg h3]
  by_cases h4 : w0 = "land"
  · subst h4
    have n4 : ¬ ("land" : Str) = "trade" := by decide +kernel
    rw [if_pos rfl, decide_eq_false n4, Bool.false_and, Bool.not_false, Bool.and_true]
    match ws with
    | [] => rfl
    | [a] =>
      show ((decide ((0 : Int) ≤ numZ a) && decide (numZ a ≤ 4)) && false) = (inB 0 4 (iwV 9 a) && _)
      rw [if_neg hth, if_pos rfl, Bool.and_false]
      exact (Bool.and_false _).symm
    | [a, b] =>
      show ((decide ((0 : Int) ≤ numZ a) && decide (numZ a ≤ 4)) && ((decide ((1 : Int) ≤ numZ b) && decide (numZ b ≤ 20)) && true)) = (inB 0 4 (iwV 9 a) && _)
      rw [if_neg hth, if_pos rfl, nz_in (by decide), nz_in (by decide), Bool.and_true]
      rfl
    | a :: b :: c :: r =>
      show ((decide ((0 : Int) ≤ numZ a) && decide (numZ a ≤ 4)) && ((decide ((1 : Int) ≤ numZ b) && decide (numZ b ≤ 20)) && false)) = (inB 0 4 (iwV 9 a) && _)
      rw [if_neg hth, if_pos rfl, Bool.and_false, Bool.and_false]
      exact (Bool.and_false _).symm
  rw [if_neg h4]
  by_cases h5 : w0 = "trade"
  · subst h5
    rw [if_pos rfl, decide_eq_true rfl, Bool.true_and]
    match ws with
    | [] => rfl
    | [a] =>
      show (((decide ((0 : Int) ≤ numZ a) && decide (numZ a ≤ 4)) && false) && _) = (inB 0 4 (iwV 9 a) && _)
      rw [if_neg hth, if_neg h4, if_pos rfl, Bool.and_false, Bool.false_and]
      exact (Bool.and_false _).symm
    | [a, b] =>
      show (((decide ((0 : Int) ≤ numZ a) && decide (numZ a ≤ 4)) && ((decide ((0 : Int) ≤ numZ b) && decide (numZ b ≤ 4)) && false)) && _) = (inB 0 4 (iwV 9 a) && _)
      rw [if_neg hth, if_neg h4, if_pos rfl, Bool.and_false, Bool.and_false, Bool.false_and]
      exact (Bool.and_false _).symm
    | [a, b, c] =>
      show (((decide ((0 : Int) ≤ numZ a) && decide (numZ a ≤ 4)) && ((decide ((0 : Int) ≤ numZ b) && decide (numZ b ≤ 4)) && ((decide ((1 : Int) ≤ numZ c) && decide (numZ c ≤ 500)) && true))) && !decide (some (numZ a) = some (numZ b))) = (inB 0 4 (iwV 9 a) && _)
      rw [if_neg hth, if_neg h4, if_pos rfl, nz_in (by decide), nz_in (by decide), nz_in (by decide), Bool.and_true]
      show (inB 0 4 (iwV 9 a) && (inB 0 4 (iwV 9 b) && inB 1 500 (iwV 9 c)) && _) = (inB 0 4 (iwV 9 a) && (inB 0 4 (iwV 9 b) && !decide (iwV 9 a = iwV 9 b) && inB 1 500 (iwV 9 c)))
      cases ha : inB 0 4 (iwV 9 a) with
      | false => rfl
      | true =>
        cases hb : inB 0 4 (iwV 9 b) with
        | false => simp
        | true =>
          rw [nz_val (by decide) ha, nz_val (by decide) hb]
          have e : decide (some (numZ a) = some (numZ b)) = decide (V.int (numZ a) = V.int (numZ b)) := by
            apply decide_eq_decide.mpr
            constructor
            · intro h
              rw [Option.some.inj h]
            · intro h
              injection h with h
              rw [h]
          rw [e]
          cases inB 1 500 (iwV 9 c) <;> cases decide (V.int (numZ a) = V.int (numZ b)) <;> rfl
    | a :: b :: c :: x :: r =>
      show (((decide ((0 : Int) ≤ numZ a) && decide (numZ a ≤ 4)) && ((decide ((0 : Int) ≤ numZ b) && decide (numZ b ≤ 4)) && ((decide ((1 : Int) ≤ numZ c) && decide (numZ c ≤ 500)) && false))) && _) = (inB 0 4 (iwV 9 a) && _)
      rw [if_neg hth, if_neg h4, if_pos rfl, Bool.and_false, Bool.and_false, Bool.and_false, Bool.false_and]
      exact (Bool.and_false _).symm
  rw [if_neg h5, decide_eq_false h5, Bool.false_and, Bool.not_false, Bool.and_true]
  match ws with
  | [] => rfl
  | a :: r =>
    show ((decide ((1 : Int) ≤ numZ a) && decide (numZ a ≤ 0)) && inPair (r.map numZ) (List.replicate 8 (1, 0))) = (inB 0 4 (iwV 9 a) && _)
    rw [if_neg hth, if_neg h4, if_neg h5]
    have e : (decide ((1 : Int) ≤ numZ a) && decide (numZ a ≤ 0)) = false := by
      by_cases h : (1 : Int) ≤ numZ a
      · rw [decide_eq_true h, decide_eq_false (by omega), Bool.true_and]
      · rw [decide_eq_false h, Bool.false_and]
    rw [e, Bool.false_and]
    exact (Bool.and_false _).symm
/-- what is read is as the own numbers tell -/
theorem due_vals {w0 : Str} {ws : List Str} (h : okDue w0 ws = true) : ws.map (iwV 9) = ws.map fun w => V.int (numZ w) := by
  unfold okDue at h
  rw [Bool.and_eq_true] at h
  have pos : ∀ b ∈ bndW w0, (0 : Int) ≤ b.1 := by
    intro b hb
    unfold bndW at hb
    repeat' split at hb
    all_goals (simp at hb; try (rcases hb with rfl | rfl | rfl) <;> decide)
    all_goals (first | (rcases hb with rfl | rfl <;> decide) | (subst hb; decide) | (rw [hb]; decide) | (obtain ⟨_, rfl⟩ := hb; decide))
  have key : ∀ (l : List Str) (bs : List (Int × Int)), (∀ b ∈ bs, (0 : Int) ≤ b.1) → inPair (l.map numZ) bs = true → l.map (iwV 9) = l.map fun w => V.int (numZ w) := by
    intro l
    induction l with
    | nil => intro _ _ _; rfl
    | cons a r ih =>
      intro bs hb hi
      cases bs with
      | nil => cases hi
      | cons b bs =>
        have hi' : ((decide (b.1 ≤ numZ a) && decide (numZ a ≤ b.2)) && inPair (r.map numZ) bs) = true := hi
        rw [Bool.and_eq_true] at hi'
        have h0 := hb b List.mem_cons_self
        rw [nz_in h0] at hi'
        rw [List.map_cons, List.map_cons, nz_val h0 hi'.1, ih bs (fun b hb' => hb b (List.mem_cons_of_mem _ hb')) hi'.2]
  exact key ws _ pos h.1
end SH
end

section
/-! #### the walk's words -/
local macro_rules | `(tactic| walk_at "ne0") => `(tactic| first
  | assumption
  | (refine Ne.symm ?_; assumption))
local macro_rules | `(tactic| walk_at "ne") => `(tactic| first
  | assumption
  | (refine Ne.symm ?_; assumption)
  | (refine' L2.ne_of_none ?gx (by assumption); (case gx => walk_at "hp"))
  | (refine' Ne.symm (L2.ne_of_none ?gx (by assumption)); (case gx => walk_at "hp")))
local macro_rules | `(tactic| walk_at "hp") => `(tactic| first
  | assumption
  | exact L2.upd_same
  | (refine' SH.upd_new ?gh (by assumption); (case gh => walk_at "hp"))
  | (refine' (L2.upd_ne ?gn).trans ?gh; (case gn => walk_at "ne0"); (case gh => walk_at "hp"))
  | (refine' SH.Off.at (by assumption) ?gn ?gh; (case gn => walk_at "nin"); (case gh => walk_at "hp")))
local macro_rules | `(tactic| walk_at "nin") => `(tactic| first
  | exact SH.nin_nil
  | (refine SH.nin_cons ?_ ?_; (· walk_at "ne0"); (· walk_at "nin")))
local macro_rules | `(tactic| walk_at "sq") => `(tactic| first
  | assumption
  | (apply L2.SqL.of; (· walk_at "hp"))
  | (apply L2.SqT.of; (· walk_at "hp"))
  | (refine' SH.seqT_new ?gx (by assumption); (case gx => walk_at "sq"))
  | (refine' SH.seqL_new ?gx (by assumption); (case gx => walk_at "sq"))
  | (refine' SH.Off.seqT (by assumption) ?gx; (case gx => walk_at "sq"))
  | (refine' SH.Off.seqL (by assumption) ?gy ?gx; (case gx => walk_at "sq"); (case gy => walk_at "nin")))
local macro_rules | `(tactic| walk_at "kd") => `(tactic| first
  | assumption | exact SH.KdV.int _ | exact SH.KdV.bl _ | exact SH.KdV.str _ | exact SH.KdV.non
  | (apply SH.KdV.tup; (· walk_at "sq")) | (apply SH.KdV.lst; (· walk_at "sq")))
/-- a way that cannot be -/
local macro_rules | `(tactic| walk_at "no") => `(tactic| (exfalso; first | assumption | omega | contradiction | (simp_all; done)))
/-- one step -/
local macro_rules | `(tactic| walk_at "g1") => `(tactic| with_reducible first
  | refine SH.g_var (by with_unfolding_all rfl) ?_ | refine SH.g_c ?_ | refine SH.g_op ?_ | refine SH.g_un ?_ | refine SH.g_I0 ?_ | refine SH.g_U ?_
  | refine SH.g_eqI ?_ | refine SH.g_neI ?_ | refine SH.g_eqS ?_ | refine SH.g_neS ?_
  | refine SH.g_test ?_ | refine SH.g_B ?_ | refine SH.g_isB ?_ | refine SH.g_and ?_ | refine SH.g_or ?_ | refine SH.g_not ?_ | refine SH.g_andV ?_ | refine SH.g_orV ?_ | refine SH.g_notV ?_ | refine SH.g_ifE ?_ | refine SH.g_chain ?_
  | refine SH.g_nil ?_ | refine SH.g_cons ?_ | refine SH.g_tup ?_ | refine SH.g_lst ?_ | refine SH.g_call ?_ | refine SH.g_fld ?_ | refine SH.g_meth ?_ | refine SH.g_make ?_ | refine SH.g_cb ?_ | refine SH.g_bm ?_
  | refine SH.g_seq ?_ | refine SH.g_asg ?_ | refine SH.g_name ?_ | refine SH.g_drop ?_ | refine SH.g_ret ?_ | refine SH.g_retN ?_ | refine SH.g_next ?_ | refine SH.g_brk ?_ | refine SH.g_cnt ?_ | refine SH.g_ifs ?_ | refine SH.g_par ?_ | refine SH.g_par2 ?_ | refine SH.g_fldS ?_ | refine SH.g_raise ?_ | refine SH.g_rs ?_
  | refine SH.g_sub ?_ | refine SH.g_yes ?_ | refine SH.g_sl ?_ | refine SH.g_noPart ?_ | refine SH.g_part ?_ | refine SH.g_intO ?_ | refine SH.g_dget ?_ | refine SH.g_dput ?_ | refine SH.g_forR ?_ | refine SH.g_forL ?_ | refine SH.g_forT ?_ | refine SH.g_lcR ?_ | refine SH.g_lcL ?_ | refine SH.g_lcT ?_ | refine SH.g_gcons ?_ | refine SH.g_gnil ?_
  | refine SH.br_t ?_ | refine SH.br_f ?_
  | refine SH.g_int ?_ | refine SH.g_abs ?_ | refine SH.g_max2 ?_ | refine SH.g_min2 ?_)
local macro_rules | `(tactic| walk_at "g2") => `(tactic| first
  | walk_at "g1"
  | ((with_reducible refine' SH.g_isiInt ?ga ?gz); (case ga => walk_at "kd"))
  | ((with_reducible refine' SH.g_isiBool ?ga ?gz); (case ga => walk_at "kd"))
  | ((with_reducible refine' SH.g_isiStr ?ga ?gz); (case ga => walk_at "kd"))
  | ((with_reducible refine' SH.g_isiTup ?ga ?gz); (case ga => walk_at "kd"))
  | ((with_reducible refine' SH.g_ixT ?ga ?gb ?gz); (case ga => walk_at "sq"); (case gb => rfl))
  | ((with_reducible refine' SH.g_ixL ?ga ?gb ?gz); (case ga => walk_at "sq"); (case gb => first | rfl | (apply SH.atI_refs; assumption)))
  | ((with_reducible refine SH.br_F ?_ ?_); (· decide +kernel)) | ((with_reducible refine SH.br_T ?_ ?_); (· decide +kernel)) | ((with_reducible refine SH.br_NF ?_ ?_); (· decide +kernel)) | ((with_reducible refine SH.br_NT ?_ ?_); (· decide +kernel))
  | ((with_reducible refine' SH.g_gtup ?ga ?gb ?gz); (case ga => walk_at "sq"); (case gb => rfl))
  | ((with_reducible refine' SH.g_lenT ?ga ?gz); (case ga => walk_at "sq"))
  | ((with_reducible refine' SH.g_lenL ?ga ?gz); (case ga => walk_at "sq"))
  | ((with_reducible refine SH.g_mkT (SH.sz rfl) ?_); intro _ _)
  | ((with_reducible refine SH.g_mkL (SH.sz rfl) ?_); intro _ _)
  | ((with_reducible refine SH.g_dnew ?_); intro _ _)
  | ((with_reducible refine' SH.g_tupL ?ga ?gz); (case ga => walk_at "sq"); intro _ _)
  | ((with_reducible refine' SH.g_lstL ?ga ?gz); (case ga => walk_at "sq"); intro _ _)
  | ((with_reducible refine' SH.g_lstT ?ga ?gz); (case ga => walk_at "sq"); intro _ _)
  | ((with_reducible refine' SH.g_dgR ?ga ?gb ?gz); (case ga => walk_at "hp"); (case gb => walk_at "dv"))
  | ((with_reducible refine' SH.g_fldR ?ga ?gb ?gc ?gd ?gz); (case ga => walk_at "hp"); (case gb => walk_at "cl"); (case gc => walk_at "na"); (case gd => walk_at "fv"))
  | ((with_reducible refine' SH.g_insR ?ga ?gb ?gz); (case ga => walk_at "hp"); (case gb => walk_at "fn"))
  | ((with_reducible refine' SH.g_setL ?ga ?gb ?gz); (case ga => walk_at "hp"); (case gb => rfl))
  | ((with_reducible refine SH.g_I ?_ ?_); (· walk_at "ci"))
  | ((with_reducible refine' SH.g_slL ?ga ?gz); (case ga => walk_at "sq"); intro _ _)
  | ((with_reducible refine' SH.g_cat ?ga ?gb ?gc ?gz); (case ga => walk_at "hp"); (case gb => walk_at "hp"); (case gc => walk_at "ls"); intro _ _))
/-- the side conditions of numbers: a divisor, a factor -/
local macro_rules | `(tactic| walk_at "ci") => `(tactic| first
  | (show _ ≠ _; omega) | (show _ < _; omega) | (constructor <;> omega) | (refine Or.inr ⟨?_, ?_⟩ <;> (show _ < _; omega)) | (refine Or.inl ⟨?_, ?_⟩ <;> (show _ < _; omega)) | (refine ⟨?_, ?_, ?_⟩ <;> decide))
local macro_rules | `(tactic| walk_at "ls") => `(tactic| first | (show _ ≤ _; exact Nat.le_trans (by assumption) (by decide)) | (show _ ≤ _; exact Nat.le_trans (by simp; omega) (by decide : 1000 ≤ sizeLine)))
local macro_rules | `(tactic| walk_at "dv") => `(tactic| rfl)
local macro_rules | `(tactic| walk_at "fv") => `(tactic| rfl)
local macro_rules | `(tactic| walk_at "fn") => `(tactic| rfl)
local macro_rules | `(tactic| walk_at "cl") => `(tactic| assumption)
local macro_rules | `(tactic| walk_at "na") => `(tactic| assumption)
local macro_rules | `(tactic| walk_at "go") => `(tactic| repeat walk_at "g2")
/-- a way is split -/
local macro_rules | `(tactic| walk_at "br") => `(tactic| with_reducible first
  | refine SH.br_d (fun _ => ?_) (fun _ => ?_) | refine SH.br_nd (fun _ => ?_) (fun _ => ?_) | refine SH.br_b (fun _ => ?_) (fun _ => ?_))
/-- all ways -/
local macro_rules | `(tactic| walk_at "all") => `(tactic| repeat' first | walk_at "g2" | (walk_at "br" <;> try (walk_at "no")))
/-- a truth value is the other -/
local macro_rules | `(tactic| walk_at "bq") => `(tactic| first | rfl | (simp_all; done) | (simp_all; omega) | (simp only [decide_eq_true_eq, decide_eq_false_iff_not, Bool.and_eq_true, Bool.or_eq_true] at *; omega))
/-- what was tracked is as it was -/
local macro_rules | `(tactic| walk_at "of") => `(tactic| first
  | assumption
  | exact SH.Off.refl _ _
  | (refine' SH.Off.new2 ?gx (by assumption); (case gx => walk_at "of"))
  | (refine' SH.Off.mut ?gx (by assumption); (case gx => walk_at "of"))
  | (refine' SH.Off.trans' ?gx (by assumption) ?gy; (case gy => (intro _ h; (first | exact h | (simp at h; done) | (simp at h ⊢; simp [h]; done)))); (case gx => walk_at "of")))
namespace SH
open PySem PySem.Spec PyProof.Rows L2 TL
/-- data that nothing changes: numbers, texts, tuples of such -/
def Fz (K : PySem.W.Frag) (H : Hp) (v : V) (d : PyData) : Prop := ∀ (S : List Addr) (H' : Hp), Off S H H' → Dp K H' v d
theorem Fz.dp {K : PySem.W.Frag} {H : Hp} {v : V} {d : PyData} (h : Fz K H v d) : Dp K H v d := h [] H (.refl _ _)
theorem Fz.off {K : PySem.W.Frag} {S : List Addr} {H H' : Hp} {v : V} {d : PyData} (h : Fz K H v d) (o : Off S H H') : Fz K H' v d := fun S' H'' o' => h (S ++ S') H'' ((o.mono fun a ha => List.mem_append_left _ ha).trans (o'.mono fun a ha => List.mem_append_right _ ha))
theorem Fz.int {K : PySem.W.Frag} {H : Hp} (i : Int) : Fz K H (.int i) (.int i) := fun _ _ _ => .int i
def FzL (K : PySem.W.Frag) (H : Hp) (vs : List V) (ds : List PyData) : Prop := Paired (Fz K H) vs ds
theorem FzL.off {K : PySem.W.Frag} {S : List Addr} {H H' : Hp} {vs : List V} {ds : List PyData} (h : FzL K H vs ds) (o : Off S H H') : FzL K H' vs ds := Paired.mapP h fun _ _ z => z.off o
theorem FzL.dp {K : PySem.W.Frag} {H : Hp} : ∀ {vs : List V} {ds : List PyData}, FzL K H vs ds → DpAll K H vs ds
  | _, _, .nil => .nil
  | _, _, .cons h t => .cons h.dp (FzL.dp t)
theorem Fz.tup {K : PySem.W.Frag} {H : Hp} {p : Addr} {vs : List V} {ds : List PyData} (h : H p = some (.tup vs)) (t : FzL K H vs ds) : Fz K H (.ref p) (.tuple ds) := fun _ _ o => .tup (.of (o.tups _ _ h)) (t.off o).dp
theorem ints_dpAll {K : PySem.W.Frag} {H : Hp} : ∀ ns : List Int, DpAll K H (ns.map V.int) (ns.map PyData.int)
  | [] => .nil
  | n :: ns => .cons (.int n) (ints_dpAll ns)
theorem ints_lay : ∀ ns : List Int, PyData.canLayAll0 (ns.map PyData.int) = true
  | [] => rfl
  | n :: ns => by
    show (PyData.canLay0 (.int n) && PyData.canLayAll0 (ns.map PyData.int)) = true
    rw [ints_lay ns]
    rfl
theorem ints_depth : ∀ ns : List Int, PyData.depthAll (ns.map PyData.int) = 0
  | [] => rfl
  | n :: ns => by
    show max (PyData.depth (.int n)) (PyData.depthAll (ns.map PyData.int)) = 0
    rw [ints_depth ns]
    rfl
theorem ints_shaped (ns : List Int) : SeqAt.shaped (.list (ns.map PyData.int)) = true := by
  unfold SeqAt.shaped
  rw [Bool.and_eq_true, decide_eq_true_eq]
  refine ⟨ints_lay ns, ?_⟩
  show PyData.depthAll (ns.map PyData.int) + 1 ≤ 64
  rw [ints_depth ns]
  omega
theorem eqv_empty : ∀ ds : List PyData, PyData.eqv (.list ds) (.list []) = ds.isEmpty
  | [] => rfl
  | _ :: _ => rfl
theorem inPair_take : ∀ {ps : List Int} {bs : List (Int × Int)} {i : Nat} {p : Int} {b : Int × Int}, ps[i]? = some p → bs[i]? = some b → inPair (ps.take (i + 1)) (bs.take (i + 1)) = (inPair (ps.take i) (bs.take i) && (decide (b.1 ≤ p) && decide (p ≤ b.2)))
  | p :: ps, b :: bs, 0, _, _, h, h2 => by
    cases h
    cases h2
    show ((decide (b.1 ≤ p) && decide (p ≤ b.2)) && inPair [] []) = (true && _)
    rw [Bool.true_and]
    exact Bool.and_true _
  | p :: ps, b :: bs, i + 1, x, y, h, h2 => by
    show ((decide (b.1 ≤ p) && decide (p ≤ b.2)) && inPair (ps.take (i + 1)) (bs.take (i + 1))) = (((decide (b.1 ≤ p) && decide (p ≤ b.2)) && inPair (ps.take i) (bs.take i)) && _)
    rw [inPair_take (ps := ps) (bs := bs) (i := i) h h2]
    exact (Bool.and_assoc _ _ _).symm
  | [], _, 0, _, _, h, _ => by cases h
  | [], _, _ + 1, _, _, h, _ => by cases h
  | _ :: _, [], 0, _, _, _, h => by cases h
  | _ :: _, [], _ + 1, _, _, _, h => by cases h
theorem inPair_len : ∀ {ps : List Int} {bs : List (Int × Int)}, inPair ps bs = true → ps.length = bs.length
  | [], [], _ => rfl
  | p :: ps, b :: bs, h => by
    have h' : ((decide (b.1 ≤ p) && decide (p ≤ b.2)) && inPair ps bs) = true := h
    rw [Bool.and_eq_true] at h'
    rw [List.length_cons, List.length_cons, inPair_len h'.2]
  | [], _ :: _, h => by cases h
  | _ :: _, [], h => by cases h
theorem Fz.str {K : PySem.W.Frag} {H : Hp} (z : Str) : Fz K H (.str z) (.str z) := fun _ _ _ => .str z
/-- what reading a course comes to, as data -/
def rdD (z : Str) : PyData := match badAt (linesS z) with
  | none => .tuple [.str "read", .tuple ((linesS z).map stepD)]
  | some k => .tuple [.str "bad", .int ((k : Nat) + 1 : Int)]
theorem steps_fz {K : PySem.W.Frag} {H : Hp} : ∀ {rs : List V} {ls : List Str}, Paired (fun x l => ∃ q, x = V.ref q ∧ SqT K H q (stepL l)) rs ls → (∀ l ∈ ls, (stepL l).all flB = true) → FzL K H rs (ls.map stepD)
  | _, _, .nil, _ => .nil
  | _, _, .cons r t, h => by
    obtain ⟨q, e, hq⟩ := r
    subst e
    exact .cons (fun S H' o => .tup (o.seqT hq) (fl_dpAll (h _ List.mem_cons_self))) (steps_fz t fun l hl => h l (List.mem_cons_of_mem _ hl))
end SH
end

section
/-! #### the walk's words -/
local macro_rules | `(tactic| walk_at "ne0") => `(tactic| first
  | assumption
  | (refine Ne.symm ?_; assumption))
local macro_rules | `(tactic| walk_at "ne") => `(tactic| first
  | assumption
  | (refine Ne.symm ?_; assumption)
  | (refine' L2.ne_of_none ?gx (by assumption); (case gx => walk_at "hp"))
  | (refine' Ne.symm (L2.ne_of_none ?gx (by assumption)); (case gx => walk_at "hp")))
local macro_rules | `(tactic| walk_at "hp") => `(tactic| first
  | assumption
  | exact L2.upd_same
  | (refine' SH.upd_new ?gh (by assumption); (case gh => walk_at "hp"))
  | (refine' (L2.upd_ne ?gn).trans ?gh; (case gn => walk_at "ne0"); (case gh => walk_at "hp"))
  | (refine' SH.Off.at (by assumption) ?gn ?gh; (case gn => walk_at "nin"); (case gh => walk_at "hp")))
local macro_rules | `(tactic| walk_at "nin") => `(tactic| first
  | exact SH.nin_nil
  | (refine SH.nin_cons ?_ ?_; (· walk_at "ne0"); (· walk_at "nin")))
local macro_rules | `(tactic| walk_at "sq") => `(tactic| first
  | assumption
  | (apply L2.SqL.of; (· walk_at "hp"))
  | (apply L2.SqT.of; (· walk_at "hp"))
  | (refine' SH.seqT_new ?gx (by assumption); (case gx => walk_at "sq"))
  | (refine' SH.seqL_new ?gx (by assumption); (case gx => walk_at "sq"))
  | (refine' SH.Off.seqT (by assumption) ?gx; (case gx => walk_at "sq"))
  | (refine' SH.Off.seqL (by assumption) ?gy ?gx; (case gx => walk_at "sq"); (case gy => walk_at "nin")))
local macro_rules | `(tactic| walk_at "kd") => `(tactic| first
  | assumption | exact SH.KdV.int _ | exact SH.KdV.bl _ | exact SH.KdV.str _ | exact SH.KdV.non
  | (apply SH.KdV.tup; (· walk_at "sq")) | (apply SH.KdV.lst; (· walk_at "sq")))
/-- a way that cannot be -/
local macro_rules | `(tactic| walk_at "no") => `(tactic| (exfalso; first | assumption | omega | contradiction | (simp_all; done)))
/-- one step -/
local macro_rules | `(tactic| walk_at "g1") => `(tactic| with_reducible first
  | refine SH.g_var (by with_unfolding_all rfl) ?_ | refine SH.g_c ?_ | refine SH.g_op ?_ | refine SH.g_un ?_ | refine SH.g_I0 ?_ | refine SH.g_U ?_
  | refine SH.g_eqI ?_ | refine SH.g_neI ?_ | refine SH.g_eqS ?_ | refine SH.g_neS ?_
  | refine SH.g_test ?_ | refine SH.g_B ?_ | refine SH.g_isB ?_ | refine SH.g_and ?_ | refine SH.g_or ?_ | refine SH.g_not ?_ | refine SH.g_andV ?_ | refine SH.g_orV ?_ | refine SH.g_notV ?_ | refine SH.g_ifE ?_ | refine SH.g_chain ?_
  | refine SH.g_nil ?_ | refine SH.g_cons ?_ | refine SH.g_tup ?_ | refine SH.g_lst ?_ | refine SH.g_call ?_ | refine SH.g_fld ?_ | refine SH.g_meth ?_ | refine SH.g_make ?_ | refine SH.g_cb ?_ | refine SH.g_bm ?_
  | refine SH.g_seq ?_ | refine SH.g_asg ?_ | refine SH.g_name ?_ | refine SH.g_drop ?_ | refine SH.g_ret ?_ | refine SH.g_retN ?_ | refine SH.g_next ?_ | refine SH.g_brk ?_ | refine SH.g_cnt ?_ | refine SH.g_ifs ?_ | refine SH.g_par ?_ | refine SH.g_par2 ?_ | refine SH.g_fldS ?_ | refine SH.g_raise ?_ | refine SH.g_rs ?_
  | refine SH.g_sub ?_ | refine SH.g_yes ?_ | refine SH.g_sl ?_ | refine SH.g_noPart ?_ | refine SH.g_part ?_ | refine SH.g_intO ?_ | refine SH.g_dget ?_ | refine SH.g_dput ?_ | refine SH.g_forR ?_ | refine SH.g_forL ?_ | refine SH.g_forT ?_ | refine SH.g_lcR ?_ | refine SH.g_lcL ?_ | refine SH.g_lcT ?_ | refine SH.g_gcons ?_ | refine SH.g_gnil ?_
  | refine SH.br_t ?_ | refine SH.br_f ?_
  | refine SH.g_int ?_ | refine SH.g_abs ?_ | refine SH.g_max2 ?_ | refine SH.g_min2 ?_)
local macro_rules | `(tactic| walk_at "g2") => `(tactic| first
  | walk_at "g1"
  | ((with_reducible refine' SH.g_isiInt ?ga ?gz); (case ga => walk_at "kd"))
  | ((with_reducible refine' SH.g_isiBool ?ga ?gz); (case ga => walk_at "kd"))
  | ((with_reducible refine' SH.g_isiStr ?ga ?gz); (case ga => walk_at "kd"))
  | ((with_reducible refine' SH.g_isiTup ?ga ?gz); (case ga => walk_at "kd"))
  | ((with_reducible refine' SH.g_ixT ?ga ?gb ?gz); (case ga => walk_at "sq"); (case gb => rfl))
  | ((with_reducible refine' SH.g_ixL ?ga ?gb ?gz); (case ga => walk_at "sq"); (case gb => first | rfl | (apply SH.atI_refs; assumption)))
  | ((with_reducible refine SH.br_F ?_ ?_); (· decide +kernel)) | ((with_reducible refine SH.br_T ?_ ?_); (· decide +kernel)) | ((with_reducible refine SH.br_NF ?_ ?_); (· decide +kernel)) | ((with_reducible refine SH.br_NT ?_ ?_); (· decide +kernel))
  | ((with_reducible refine' SH.g_gtup ?ga ?gb ?gz); (case ga => walk_at "sq"); (case gb => rfl))
  | ((with_reducible refine' SH.g_lenT ?ga ?gz); (case ga => walk_at "sq"))
  | ((with_reducible refine' SH.g_lenL ?ga ?gz); (case ga => walk_at "sq"))
  | ((with_reducible refine SH.g_mkT (SH.sz rfl) ?_); intro _ _)
  | ((with_reducible refine SH.g_mkL (SH.sz rfl) ?_); intro _ _)
  | ((with_reducible refine SH.g_dnew ?_); intro _ _)
  | ((with_reducible refine' SH.g_tupL ?ga ?gz); (case ga => walk_at "sq"); intro _ _)
  | ((with_reducible refine' SH.g_lstL ?ga ?gz); (case ga => walk_at "sq"); intro _ _)
  | ((with_reducible refine' SH.g_lstT ?ga ?gz); (case ga => walk_at "sq"); intro _ _)
  | ((with_reducible refine' SH.g_dgR ?ga ?gb ?gz); (case ga => walk_at "hp"); (case gb => walk_at "dv"))
  | ((with_reducible refine' SH.g_fldR ?ga ?gb ?gc ?gd ?gz); (case ga => walk_at "hp"); (case gb => walk_at "cl"); (case gc => walk_at "na"); (case gd => walk_at "fv"))
  | ((with_reducible refine' SH.g_insR ?ga ?gb ?gz); (case ga => walk_at "hp"); (case gb => walk_at "fn"))
  | ((with_reducible refine' SH.g_setL ?ga ?gb ?gz); (case ga => walk_at "hp"); (case gb => rfl))
  | ((with_reducible refine SH.g_I ?_ ?_); (· walk_at "ci"))
  | ((with_reducible refine' SH.g_slL ?ga ?gz); (case ga => walk_at "sq"); intro _ _)
  | ((with_reducible refine' SH.g_cat ?ga ?gb ?gc ?gz); (case ga => walk_at "hp"); (case gb => walk_at "hp"); (case gc => walk_at "ls"); intro _ _))
/-- the side conditions of numbers: a divisor, a factor -/
local macro_rules | `(tactic| walk_at "ci") => `(tactic| first
  | (show _ ≠ _; omega) | (show _ < _; omega) | (constructor <;> omega) | (refine Or.inr ⟨?_, ?_⟩ <;> (show _ < _; omega)) | (refine Or.inl ⟨?_, ?_⟩ <;> (show _ < _; omega)) | (refine ⟨?_, ?_, ?_⟩ <;> decide))
local macro_rules | `(tactic| walk_at "ls") => `(tactic| first | (show _ ≤ _; exact Nat.le_trans (by assumption) (by decide)) | (show _ ≤ _; exact Nat.le_trans (by simp; omega) (by decide : 1000 ≤ sizeLine)))
local macro_rules | `(tactic| walk_at "dv") => `(tactic| rfl)
local macro_rules | `(tactic| walk_at "fv") => `(tactic| rfl)
local macro_rules | `(tactic| walk_at "fn") => `(tactic| rfl)
local macro_rules | `(tactic| walk_at "cl") => `(tactic| assumption)
local macro_rules | `(tactic| walk_at "na") => `(tactic| assumption)
local macro_rules | `(tactic| walk_at "go") => `(tactic| repeat walk_at "g2")
/-- a way is split -/
local macro_rules | `(tactic| walk_at "br") => `(tactic| with_reducible first
  | refine SH.br_d (fun _ => ?_) (fun _ => ?_) | refine SH.br_nd (fun _ => ?_) (fun _ => ?_) | refine SH.br_b (fun _ => ?_) (fun _ => ?_))
/-- all ways -/
local macro_rules | `(tactic| walk_at "all") => `(tactic| repeat' first | walk_at "g2" | (walk_at "br" <;> try (walk_at "no")))
/-- a truth value is the other -/
local macro_rules | `(tactic| walk_at "bq") => `(tactic| first | rfl | (simp_all; done) | (simp_all; omega) | (simp only [decide_eq_true_eq, decide_eq_false_iff_not, Bool.and_eq_true, Bool.or_eq_true] at *; omega))
/-- what was tracked is as it was -/
local macro_rules | `(tactic| walk_at "of") => `(tactic| first
  | assumption
  | exact SH.Off.refl _ _
  | (refine' SH.Off.new2 ?gx (by assumption); (case gx => walk_at "of"))
  | (refine' SH.Off.mut ?gx (by assumption); (case gx => walk_at "of"))
  | (refine' SH.Off.trans' ?gx (by assumption) ?gy; (case gy => (intro _ h; (first | exact h | (simp at h; done) | (simp at h ⊢; simp [h]; done)))); (case gx => walk_at "of")))
/-- texts -/
local macro_rules | `(tactic| walk_at "g2") => `(tactic| first
  | (with_reducible first | refine SH.br_ntt ?_ | refine SH.br_ntf ?_ | refine SH.br_k ?_ | refine SH.br_nk ?_ | refine SH.g_lcS ?_ | refine SH.g_leS ?_ | refine SH.g_niS ?_ | refine SH.g_strS ?_ | refine SH.g_tM1 ?_ | refine SH.g_isStr ?_ | refine SH.g_enL ?_ | refine SH.g_star ?_)
  | ((with_reducible refine SH.g_slS ?_ ?_); (· omega))
  | ((with_reducible refine SH.g_lenS ?_ ?_); (· omega))
  | ((with_reducible refine' SH.g_bml ?ga ?gz); (case ga => walk_at "sq")))
namespace SH
open PySem PySem.Spec PyProof.Rows L2 TL NumText
def spDiv : Sp := fun vs H Q _ => ∃ a b : Nat, vs = [.int (a : Int), .int (b : Int)] ∧ Q (.int ((Nat.gcd a b : Nat) : Int)) H
def spTupOf (K : PySem.W.Frag) : Sp := fun vs H Q _ => ∃ v n b, vs = [v, .int n] ∧ ((∃ p xs, v = .ref p ∧ SqT K H p xs ∧ b = decide ((xs.length : Int) = n)) ∨ ∃ k, KdV K H v k ∧ k ≠ .tup ∧ b = false) ∧ Q (.bl b) H
/-- whether a tuple of these is a fraction -/
def fracB (xs : List V) : Bool := match xs with
  | [.int p, .int q] => fracZ p q
  | _ => false
def spIsFrac (K : PySem.W.Frag) : Sp := fun vs H Q _ => ∃ v, vs = [v] ∧ ((∃ p xs, v = .ref p ∧ SqT K H p xs ∧ (xs.length = 2 → xs.all flB = true) ∧ Q (.bl (fracB xs)) H) ∨ ∃ k, KdV K H v k ∧ k ≠ .tup ∧ Q (.bl false) H)
def spLFrac (K : PySem.W.Frag) : Sp := fun vs H Q _ => ∃ (t : Addr) (p q : Int), vs = [.ref t] ∧ H t = some (.tup [.int p, .int q]) ∧ ∀ H', Off [] H H' → Q (.bl (fracZ p q)) H'
def spWrF (K : PySem.W.Frag) : Sp := fun vs H Q E => ∃ v, vs = [v] ∧ ((∃ t p q, v = .ref t ∧ SqT K H t [.int p, .int q] ∧ fracZ p q = true ∧ p.natAbs < 10 ^ 18 ∧ q.natAbs < 10 ^ 18 ∧ Q (.str (wrF p q)) H) ∨
  (∃ t xs, v = .ref t ∧ SqT K H t xs ∧ (xs.length = 2 → xs.all flB = true) ∧ (fracB xs = false ∨ ∃ p q : Int, xs = [.int p, .int q] ∧ (10 ^ 18 ≤ p.natAbs ∨ 10 ^ 18 ≤ q.natAbs)) ∧ RaiseW (He.ga K "BadArgument") "name" (.str "fraction") H E) ∨
  ∃ k, KdV K H v k ∧ k ≠ .tup ∧ RaiseW (He.ga K "BadArgument") "name" (.str "fraction") H E)
section
variable {P : Program} {w : World} {K : PySem.W.Frag} {mg : Str → Option Value} {base : Heap}
theorem ok_divisor (T : Txt P w K mg) : DefOk P w K mg base "divisor" 1 ["one", "other"] spDiv := by
  refine T.d_divisor.ok sc_divisor (fun _ _ _ _ _ _ us hl => match us, hl with | [_, _], _ => rfl) (fun vs H Q E h => ?_) (fun f cdv A outer s H vs Q E hr h => ?_)
  · obtain ⟨a, b, rfl, _⟩ := h
    rfl
  · obtain ⟨a, b, rfl, q⟩ := h
    have B := T.blt
    have hu := hu_of hr
    refine ⟨_, (pss_cons (ps_while (passes_of rfl) (pt_cmpR op_gt (pv 1) pe_int (nomark _))
    (pss_one (ps_par (i := 0) (j := 1) (by rfl) sc_divisor.nd rfl rfl (by decide) rfl rfl (pa_cons (pv 1) (pa_cons (pe_op op_modN (pv 0) (pv 1)) pa_nil)) (by rfl))))
  (pss_one (ps_ret (pv 0)))), ?_⟩
    walk_at "go"
    refine g_while (fun m σ H' => ∃ x y : Nat, σ = [some (.int (x : Int)), some (.int (y : Int))] ∧ H' = H ∧ Nat.gcd x y = Nat.gcd a b ∧ m = y) b ⟨a, b, rfl, rfl, rfl, rfl⟩ (fun m σ H' hW => ?_)
    obtain ⟨x, _, rfl, rfl, hg, rfl⟩ := hW
    walk_at "go"
    refine br_d (fun c => ?_) (fun c => ?_)
    · refine g_whN ?_
      walk_at "go"
      have e := Int.fmod_eq_emod_of_nonneg (x : Int) (show (0 : Int) ≤ (m : Int) by omega)
      refine ⟨_, _, rfl, x % m, Nat.mod_lt _ (by omega), m, x % m, ?_, rfl, ?_, rfl⟩
      · rw [e, ← Int.natCast_emod]
        rfl
      · rw [← hg, Nat.gcd_comm x m, Nat.gcd_rec m x, Nat.gcd_comm]
    · have : m = 0 := by omega
      subst this
      walk_at "go"
      rw [Nat.gcd_zero_right] at hg
      rw [hg]
      exact q
theorem ok_is_tuple_of (T : Txt P w K mg) : DefOk P w K mg base "is_tuple_of" 1 ["value", "many"] (spTupOf K) := by
  refine T.d_is_tuple_of.ok sc_is_tuple_of (fun _ _ _ _ _ _ us hl => match us, hl with | [_, _], _ => rfl) (fun vs H Q E h => ?_) (fun f cdv A outer s H vs Q E hr h => ?_)
  · obtain ⟨v, n, b, rfl, _⟩ := h
    rfl
  · obtain ⟨v, n, b, rfl, hb, q⟩ := h
    have B := T.blt
    have hu := hu_of hr
    refine ⟨_, (pss_one (ps_ret (pe_and (pe_callB (call_isiK' (K := K) rfl) (by rfl) B.b_isinstance (by decide +kernel) (pa_cons (pv 0) (pa_cons (pe_bltn (v := .ty "tuple") rfl B.b_tuple (by decide +kernel) rfl) pa_nil))) (pe_one (pe_cmpR op_eq (pe_callB (c_lenK (K := K) rfl) (by rfl) B.b_len PySem.boot_len (pa_cons (pv 0) pa_nil)) (pv 1) (nomark _)))))), ?_⟩
    rcases hb with ⟨p, xs, rfl, hp, rfl⟩ | ⟨k, hk, nk, rfl⟩
    · have hk : KdV K H (.ref p) .tup := .tup hp
      walk_at "go"
      exact q
    · have ek : (k == Kd.tup) = false := by cases k <;> first | rfl | exact absurd rfl nk
      walk_at "go"
      rw [ek]
      walk_at "go"
      exact q
theorem ok_is_fraction (T : Txt P w K mg) : DefOk P w K mg base "is_fraction" 2 ["value"] (spIsFrac K) := by
  refine T.d_is_fraction.ok sc_is_fraction (fun _ _ _ _ _ _ us hl => match us, hl with | [_], _ => rfl) (fun vs H Q E h => ?_) (fun f cdv A outer s H vs Q E hr h => ?_)
  · obtain ⟨v, rfl, _⟩ := h
    rfl
  · obtain ⟨v, rfl, h⟩ := h
    have B := T.blt
    have hu := hu_of hr
    have G_divisor := ok_divisor (base := base) T
    have G_is_tuple_of := ok_is_tuple_of (base := base) T
    have G_is_integer := ok_is_integer (base := base) T
    refine ⟨_, (pss_cons (ps_if (PW.pt (pw_or (pt_not (pt_val (pe_df G_is_tuple_of (hr.mono (by decide)) (L2N.passes_call (L2N.takes_of rfl rfl rfl rfl) fun _ _ _ _ z => z) (pa_cons (pv 0) (pa_cons pe_int pa_nil))) (by intro _; rfl))) (pw_or (pt_not (pt_val (pe_df G_is_integer (hr.mono (by decide)) (L2N.passes_call (L2N.takes_of rfl rfl rfl rfl) fun _ _ _ _ z => z) (pa_cons (pe_ix (ix_tupK (K := K) rfl) (pv 0) pe_int (fun _ _ => rfl)) pa_nil)) (by intro _; rfl))) (pw_or (pt_not (pt_val (pe_df G_is_integer (hr.mono (by decide)) (L2N.passes_call (L2N.takes_of rfl rfl rfl rfl) fun _ _ _ _ z => z) (pa_cons (pe_ix (ix_tupK (K := K) rfl) (pv 0) pe_int (fun _ _ => rfl)) pa_nil)) (by intro _; rfl))) (pw_or1 (pt_cmpR op_lt (pe_ix (ix_tupK (K := K) rfl) (pv 0) pe_int (fun _ _ => rfl)) pe_int (nomark _)))))))
    (pss_one (ps_ret pe_bl))
    pss_nil)
  (pss_one (ps_ret (pe_cmpR op_eq (pe_df G_divisor (hr.mono (by decide)) (L2N.passes_call (L2N.takes_of rfl rfl rfl rfl) fun _ _ _ _ z => z) (pa_cons (pe_callB c_abs (by rfl) B.b_abs (by decide +kernel) (pa_cons (pe_ix (ix_tupK (K := K) rfl) (pv 0) pe_int (fun _ _ => rfl)) pa_nil)) (pa_cons (pe_ix (ix_tupK (K := K) rfl) (pv 0) pe_int (fun _ _ => rfl)) pa_nil))) pe_int (nomark _))))), ?_⟩
    rcases h with ⟨p, xs, rfl, hp, hf, q⟩ | ⟨k, hk, nk, q⟩
    rotate_left 1
    · walk_at "go"
      refine ⟨v, 2, false, rfl, .inr ⟨k, hk, nk, rfl⟩, ?_⟩
      walk_at "go"
      exact q
    walk_at "go"
    refine ⟨.ref p, 2, _, rfl, .inl ⟨p, xs, rfl, hp, rfl⟩, ?_⟩
    by_cases h2 : ((xs.length : Nat) : Int) = 2
    case neg =>
      rw [decide_eq_false h2]
      walk_at "go"
      refine qb q ?_
      unfold fracB
      split
      · exact absurd rfl h2
      · rfl
    case pos =>
    rw [decide_eq_true h2]
    have hf := hf (by omega)
    match xs, h2, hp, hf, q with
    | [x, y], _, hp, hf, q =>
      rw [List.all_cons, List.all_cons, Bool.and_eq_true, Bool.and_eq_true] at hf
      obtain ⟨fx, fy, _⟩ := hf
      walk_at "go"
      cases x with
      | int i =>
        refine ⟨_, .int, rfl, .int i, ?_⟩
        walk_at "go"
        cases y with
        | int j =>
          refine ⟨_, .int, rfl, .int j, ?_⟩
          walk_at "go"
          refine br_d (fun c => ?_) (fun c => ?_)
          · walk_at "go"
            refine qb q ?_
            show (decide (1 ≤ j) && _) = false
            rw [decide_eq_false (by omega), Bool.false_and]
          · walk_at "go"
            have ea : (if i < 0 then -i else i) = ((i.natAbs : Nat) : Int) := by split <;> omega
            have ej : j = ((j.toNat : Nat) : Int) := by omega
            refine ⟨i.natAbs, j.toNat, by rw [ea, ← ej], ?_⟩
            walk_at "go"
            refine qb q ?_
            show (decide (1 ≤ j) && decide (Nat.gcd i.natAbs j.toNat = 1)) = _
            rw [decide_eq_true (show 1 ≤ j by omega), Bool.true_and]
            apply decide_eq_decide.mpr
            omega
        | str j =>
          refine ⟨_, .str, rfl, .str j, ?_⟩
          walk_at "go"
          exact q
        | bl j =>
          refine ⟨_, .bl, rfl, .bl j, ?_⟩
          walk_at "go"
          exact q
        | non =>
          refine ⟨_, .non, rfl, .non, ?_⟩
          walk_at "go"
          exact q
        | _ => cases fy
      | str j =>
        refine ⟨_, .str, rfl, .str j, ?_⟩
        walk_at "go"
        exact q
      | bl j =>
        refine ⟨_, .bl, rfl, .bl j, ?_⟩
        walk_at "go"
        exact q
      | non =>
        refine ⟨_, .non, rfl, .non, ?_⟩
        walk_at "go"
        exact q
      | _ => cases fx
    | [], h2, _, _, _ => exact absurd h2 (by simp)
    | [x], h2, _, _, _ => exact absurd h2 (by simp)
    | x :: y :: u :: r, h2, _, _, _ => exact absurd h2 (by simp; omega)
theorem okL_write_fraction (T : Txt P w K mg) : DefL P w K mg base "write_fraction" 3 ["fraction"] (spWrF K) := by
  refine T.d_write_fraction.okL sc_write_fraction (fun _ _ _ _ _ _ us hl => match us, hl with | [_], _ => rfl) (fun vs H Q E h => ?_) (fun f cdv A outer s H vs Q E hr h => ?_)
  · obtain ⟨v, rfl, _⟩ := h
    rfl
  · obtain ⟨v, rfl, h⟩ := h
    have B := T.blt
    have hu := hu_of hr
    have G_demand := ok_demand (base := base) T
    have G_is_fraction := ok_is_fraction (base := base) T
    refine ⟨_, (pss_cons (ps_expr (pe_df G_demand (hr.mono (by decide)) (L2N.passes_call (L2N.takes_of rfl rfl rfl rfl) fun _ _ _ _ z => z) (pa_cons (pe_and (pe_df G_is_fraction (hr.mono (by decide)) (L2N.passes_call (L2N.takes_of rfl rfl rfl rfl) fun _ _ _ _ z => z) (pa_cons (pv 0) pa_nil)) (pe_one (pe_cmpR op_lt (pe_callB (c_max2 rfl) (by rfl) B.b_max (by decide +kernel) (pa_cons (pe_callB c_abs (by rfl) B.b_abs (by decide +kernel) (pa_cons (pe_ix (ix_tupK (K := K) rfl) (pv 0) pe_int (fun _ _ => rfl)) pa_nil)) (pa_cons (pe_ix (ix_tupK (K := K) rfl) (pv 0) pe_int (fun _ _ => rfl)) pa_nil))) (pe_op op_pow pe_int pe_int) (nomark _)))) (pa_cons pe_str pa_nil))))
  (pss_cons (ps_asg (pv 0) (pg_tupK (K := K) (n := 2) rfl rfl (pgs_cons (pg_name (i := 1) sc_write_fraction.nd rfl (by first | exact Or.inl rfl | exact Or.inr rfl)) (pgs_cons (pg_name (i := 2) sc_write_fraction.nd rfl (by first | exact Or.inl rfl | exact Or.inr rfl)) pgs_nil))))
  (pss_one (ps_ret (pe_ifExp (pt_cmpR op_eq (pv 2) pe_int (nomark _)) (pe_callTy c_strA (by rfl) B.b_str (by decide +kernel) (pa_cons (pv 1) pa_nil)) (pe_joined (.cons (pe_fmt (pv 1)) (.cons pe_str (.cons (pe_fmt (pv 2)) .nil))))))))), ?_⟩
    rcases h with ⟨t, p, q, rfl, ht, hf, hp, hq, k⟩ | ⟨t, xs, rfl, ht, hfl, hb, k⟩ | ⟨kd, hk, nk, k⟩
    · walk_at "go"
      refine ⟨_, rfl, .inl ⟨t, _, rfl, ht, fun _ => rfl, ?_⟩⟩
      rw [show fracB [.int p, .int q] = fracZ p q from rfl, hf]
      walk_at "go"
      have q1 := frac_pos hf
      have e10 : (10 : Int) ^ Int.toNat 18 = 1000000000000000000 := by decide +kernel
      have ep : (10 : Nat) ^ 18 = 1000000000000000000 := by decide +kernel
      rw [ep] at hp hq
      have lt : (if q > (if p < 0 then -p else p) then q else (if p < 0 then -p else p)) < (10 : Int) ^ Int.toNat 18 := by
        rw [e10]
        split <;> split <;> omega
      rw [decide_eq_true lt]
      refine ⟨_, _, rfl, fun _ => ?_, fun z => by cases z⟩
      walk_at "go"
      have lp : p.natAbs.log2 < 1920 := log_ok (by omega) (by omega)
      have lq : q.natAbs.log2 < 1920 := log_ok (by omega) (by omega)
      have nl : ∀ i : Int, i.natAbs < 10 ^ 18 → (showZ i).length ≤ 19 := fun i hi => by
        have fe := figs_eq (tl (showZ i))
        rw [(figs_show i).1] at fe
        have hl := numL_len18 hi
        rw [len_tl]
        have := congrArg List.length fe
        split at this
        · rw [List.length_cons] at this
          omega
        · omega
      have np := nl p (by omega)
      have nq := nl q (by omega)
      have la : ∀ x y : Str, (x ++ y).length = x.length + y.length := fun x y => by rw [len_tl, len_tl x, len_tl y, tl_append, List.length_append]
      have ls : ("/" : Str).length = 1 := by kernel_rfl
      have le : (Str.empty).length = 0 := by kernel_rfl
      have hsz := sizeLine_eq
      have em : ∀ x : Str, Str.empty ++ x = x := fun x => ext_tl (by rw [tl_append]; rfl)
      refine br_d (fun c => ?_) (fun c => ?_)
      · walk_at "go"
        refine g_strI lp ?_
        unfold wrF at k
        rw [if_pos c] at k
        exact k
      · walk_at "go"
        unfold wrF at k
        rw [if_neg c] at k
        refine ⟨.int p, rfl, .inr ⟨p, rfl, lp, showZ p, rfl, by rw [em]; omega, ?_⟩⟩
        rw [em]
        refine ⟨"/", rfl, by rw [la, ls]; omega, ?_⟩
        refine ⟨.int q, rfl, .inr ⟨q, rfl, lq, showZ q, rfl, by rw [la, la, ls]; omega, ?_⟩⟩
        exact k
    · have hsz := sizeLine_eq
      walk_at "go"
      refine ⟨_, rfl, .inl ⟨t, _, rfl, ht, hfl, ?_⟩⟩
      rcases hb with hb | ⟨p, q, rfl, hb⟩
      · rw [hb]
        walk_at "go"
        exact ⟨_, _, rfl, fun z => (by cases z), fun _ d hd => k d hd⟩
      · rw [show fracB [.int p, .int q] = fracZ p q from rfl]
        cases hf : fracZ p q with
        | false =>
          walk_at "go"
          exact ⟨_, _, rfl, fun z => (by cases z), fun _ d hd => k d hd⟩
        | true =>
          have q1 := frac_pos hf
          have e10 : (10 : Int) ^ Int.toNat 18 = 1000000000000000000 := by decide +kernel
          have ep : (10 : Nat) ^ 18 = 1000000000000000000 := by decide +kernel
          rw [ep] at hb
          have lt : ¬ (if q > (if p < 0 then -p else p) then q else (if p < 0 then -p else p)) < (10 : Int) ^ Int.toNat 18 := by
            rw [e10]
            split <;> split <;> omega
          walk_at "go"
          rw [decide_eq_false lt]
          exact ⟨_, _, rfl, fun z => (by cases z), fun _ d hd => k d hd⟩
    · walk_at "go"
      refine ⟨_, rfl, .inr ⟨kd, hk, nk, ?_⟩⟩
      walk_at "go"
      exact ⟨_, _, rfl, fun z => (by cases z), fun _ d hd => k d hd⟩
theorem ok_write_fraction (T : Txt P w K mg) : DefOk P w K mg base "write_fraction" 3 ["fraction"] (spWrF K) := (okL_write_fraction T).ok
end
end SH
end

section
/-! #### the walk's words -/
local macro_rules | `(tactic| walk_at "ne0") => `(tactic| first
  | assumption
  | (refine Ne.symm ?_; assumption))
local macro_rules | `(tactic| walk_at "ne") => `(tactic| first
  | assumption
  | (refine Ne.symm ?_; assumption)
  | (refine' L2.ne_of_none ?gx (by assumption); (case gx => walk_at "hp"))
  | (refine' Ne.symm (L2.ne_of_none ?gx (by assumption)); (case gx => walk_at "hp")))
local macro_rules | `(tactic| walk_at "hp") => `(tactic| first
  | assumption
  | exact L2.upd_same
  | (refine' SH.upd_new ?gh (by assumption); (case gh => walk_at "hp"))
  | (refine' (L2.upd_ne ?gn).trans ?gh; (case gn => walk_at "ne0"); (case gh => walk_at "hp"))
  | (refine' SH.Off.at (by assumption) ?gn ?gh; (case gn => walk_at "nin"); (case gh => walk_at "hp")))
local macro_rules | `(tactic| walk_at "nin") => `(tactic| first
  | exact SH.nin_nil
  | (refine SH.nin_cons ?_ ?_; (· walk_at "ne0"); (· walk_at "nin")))
local macro_rules | `(tactic| walk_at "sq") => `(tactic| first
  | assumption
  | (apply L2.SqL.of; (· walk_at "hp"))
  | (apply L2.SqT.of; (· walk_at "hp"))
  | (refine' SH.seqT_new ?gx (by assumption); (case gx => walk_at "sq"))
  | (refine' SH.seqL_new ?gx (by assumption); (case gx => walk_at "sq"))
  | (refine' SH.Off.seqT (by assumption) ?gx; (case gx => walk_at "sq"))
  | (refine' SH.Off.seqL (by assumption) ?gy ?gx; (case gx => walk_at "sq"); (case gy => walk_at "nin")))
local macro_rules | `(tactic| walk_at "kd") => `(tactic| first
  | assumption | exact SH.KdV.int _ | exact SH.KdV.bl _ | exact SH.KdV.str _ | exact SH.KdV.non
  | (apply SH.KdV.tup; (· walk_at "sq")) | (apply SH.KdV.lst; (· walk_at "sq")))
/-- a way that cannot be -/
local macro_rules | `(tactic| walk_at "no") => `(tactic| (exfalso; first | assumption | omega | contradiction | (simp_all; done)))
/-- one step -/
local macro_rules | `(tactic| walk_at "g1") => `(tactic| with_reducible first
  | refine SH.g_var (by with_unfolding_all rfl) ?_ | refine SH.g_c ?_ | refine SH.g_op ?_ | refine SH.g_un ?_ | refine SH.g_I0 ?_ | refine SH.g_U ?_
  | refine SH.g_eqI ?_ | refine SH.g_neI ?_ | refine SH.g_eqS ?_ | refine SH.g_neS ?_
  | refine SH.g_test ?_ | refine SH.g_B ?_ | refine SH.g_isB ?_ | refine SH.g_and ?_ | refine SH.g_or ?_ | refine SH.g_not ?_ | refine SH.g_andV ?_ | refine SH.g_orV ?_ | refine SH.g_notV ?_ | refine SH.g_ifE ?_ | refine SH.g_chain ?_
  | refine SH.g_nil ?_ | refine SH.g_cons ?_ | refine SH.g_tup ?_ | refine SH.g_lst ?_ | refine SH.g_call ?_ | refine SH.g_fld ?_ | refine SH.g_meth ?_ | refine SH.g_make ?_ | refine SH.g_cb ?_ | refine SH.g_bm ?_
  | refine SH.g_seq ?_ | refine SH.g_asg ?_ | refine SH.g_name ?_ | refine SH.g_drop ?_ | refine SH.g_ret ?_ | refine SH.g_retN ?_ | refine SH.g_next ?_ | refine SH.g_brk ?_ | refine SH.g_cnt ?_ | refine SH.g_ifs ?_ | refine SH.g_par ?_ | refine SH.g_par2 ?_ | refine SH.g_fldS ?_ | refine SH.g_raise ?_ | refine SH.g_rs ?_
  | refine SH.g_sub ?_ | refine SH.g_yes ?_ | refine SH.g_sl ?_ | refine SH.g_noPart ?_ | refine SH.g_part ?_ | refine SH.g_intO ?_ | refine SH.g_dget ?_ | refine SH.g_dput ?_ | refine SH.g_forR ?_ | refine SH.g_forL ?_ | refine SH.g_forT ?_ | refine SH.g_lcR ?_ | refine SH.g_lcL ?_ | refine SH.g_lcT ?_ | refine SH.g_gcons ?_ | refine SH.g_gnil ?_
  | refine SH.br_t ?_ | refine SH.br_f ?_
  | refine SH.g_int ?_ | refine SH.g_abs ?_ | refine SH.g_max2 ?_ | refine SH.g_min2 ?_)
local macro_rules | `(tactic| walk_at "g2") => `(tactic| first
  | walk_at "g1"
  | ((with_reducible refine' SH.g_isiInt ?ga ?gz); (case ga => walk_at "kd"))
  | ((with_reducible refine' SH.g_isiBool ?ga ?gz); (case ga => walk_at "kd"))
  | ((with_reducible refine' SH.g_isiStr ?ga ?gz); (case ga => walk_at "kd"))
  | ((with_reducible refine' SH.g_isiTup ?ga ?gz); (case ga => walk_at "kd"))
  | ((with_reducible refine' SH.g_ixT ?ga ?gb ?gz); (case ga => walk_at "sq"); (case gb => rfl))
  | ((with_reducible refine' SH.g_ixL ?ga ?gb ?gz); (case ga => walk_at "sq"); (case gb => first | rfl | (apply SH.atI_refs; assumption)))
  | ((with_reducible refine SH.br_F ?_ ?_); (· decide +kernel)) | ((with_reducible refine SH.br_T ?_ ?_); (· decide +kernel)) | ((with_reducible refine SH.br_NF ?_ ?_); (· decide +kernel)) | ((with_reducible refine SH.br_NT ?_ ?_); (· decide +kernel))
  | ((with_reducible refine' SH.g_gtup ?ga ?gb ?gz); (case ga => walk_at "sq"); (case gb => rfl))
  | ((with_reducible refine' SH.g_lenT ?ga ?gz); (case ga => walk_at "sq"))
  | ((with_reducible refine' SH.g_lenL ?ga ?gz); (case ga => walk_at "sq"))
  | ((with_reducible refine SH.g_mkT (SH.sz rfl) ?_); intro _ _)
  | ((with_reducible refine SH.g_mkL (SH.sz rfl) ?_); intro _ _)
  | ((with_reducible refine SH.g_dnew ?_); intro _ _)
  | ((with_reducible refine' SH.g_tupL ?ga ?gz); (case ga => walk_at "sq"); intro _ _)
  | ((with_reducible refine' SH.g_lstL ?ga ?gz); (case ga => walk_at "sq"); intro _ _)
  | ((with_reducible refine' SH.g_lstT ?ga ?gz); (case ga => walk_at "sq"); intro _ _)
  | ((with_reducible refine' SH.g_dgR ?ga ?gb ?gz); (case ga => walk_at "hp"); (case gb => walk_at "dv"))
  | ((with_reducible refine' SH.g_fldR ?ga ?gb ?gc ?gd ?gz); (case ga => walk_at "hp"); (case gb => walk_at "cl"); (case gc => walk_at "na"); (case gd => walk_at "fv"))
  | ((with_reducible refine' SH.g_insR ?ga ?gb ?gz); (case ga => walk_at "hp"); (case gb => walk_at "fn"))
  | ((with_reducible refine' SH.g_setL ?ga ?gb ?gz); (case ga => walk_at "hp"); (case gb => rfl))
  | ((with_reducible refine SH.g_I ?_ ?_); (· walk_at "ci"))
  | ((with_reducible refine' SH.g_slL ?ga ?gz); (case ga => walk_at "sq"); intro _ _)
  | ((with_reducible refine' SH.g_cat ?ga ?gb ?gc ?gz); (case ga => walk_at "hp"); (case gb => walk_at "hp"); (case gc => walk_at "ls"); intro _ _))
/-- the side conditions of numbers: a divisor, a factor -/
local macro_rules | `(tactic| walk_at "ci") => `(tactic| first
  | (show _ ≠ _; omega) | (show _ < _; omega) | (constructor <;> omega) | (refine Or.inr ⟨?_, ?_⟩ <;> (show _ < _; omega)) | (refine Or.inl ⟨?_, ?_⟩ <;> (show _ < _; omega)) | (refine ⟨?_, ?_, ?_⟩ <;> decide))
local macro_rules | `(tactic| walk_at "ls") => `(tactic| first | (show _ ≤ _; exact Nat.le_trans (by assumption) (by decide)) | (show _ ≤ _; exact Nat.le_trans (by simp; omega) (by decide : 1000 ≤ sizeLine)))
local macro_rules | `(tactic| walk_at "dv") => `(tactic| rfl)
local macro_rules | `(tactic| walk_at "fv") => `(tactic| rfl)
local macro_rules | `(tactic| walk_at "fn") => `(tactic| rfl)
local macro_rules | `(tactic| walk_at "cl") => `(tactic| assumption)
local macro_rules | `(tactic| walk_at "na") => `(tactic| assumption)
local macro_rules | `(tactic| walk_at "go") => `(tactic| repeat walk_at "g2")
/-- a way is split -/
local macro_rules | `(tactic| walk_at "br") => `(tactic| with_reducible first
  | refine SH.br_d (fun _ => ?_) (fun _ => ?_) | refine SH.br_nd (fun _ => ?_) (fun _ => ?_) | refine SH.br_b (fun _ => ?_) (fun _ => ?_))
/-- all ways -/
local macro_rules | `(tactic| walk_at "all") => `(tactic| repeat' first | walk_at "g2" | (walk_at "br" <;> try (walk_at "no")))
/-- a truth value is the other -/
local macro_rules | `(tactic| walk_at "bq") => `(tactic| first | rfl | (simp_all; done) | (simp_all; omega) | (simp only [decide_eq_true_eq, decide_eq_false_iff_not, Bool.and_eq_true, Bool.or_eq_true] at *; omega))
/-- what was tracked is as it was -/
local macro_rules | `(tactic| walk_at "of") => `(tactic| first
  | assumption
  | exact SH.Off.refl _ _
  | (refine' SH.Off.new2 ?gx (by assumption); (case gx => walk_at "of"))
  | (refine' SH.Off.mut ?gx (by assumption); (case gx => walk_at "of"))
  | (refine' SH.Off.trans' ?gx (by assumption) ?gy; (case gy => (intro _ h; (first | exact h | (simp at h; done) | (simp at h ⊢; simp [h]; done)))); (case gx => walk_at "of")))
/-- texts -/
local macro_rules | `(tactic| walk_at "g2") => `(tactic| first
  | (with_reducible first | refine SH.br_ntt ?_ | refine SH.br_ntf ?_ | refine SH.br_k ?_ | refine SH.br_nk ?_ | refine SH.g_lcS ?_ | refine SH.g_leS ?_ | refine SH.g_niS ?_ | refine SH.g_strS ?_ | refine SH.g_tM1 ?_ | refine SH.g_isStr ?_ | refine SH.g_enL ?_ | refine SH.g_star ?_)
  | ((with_reducible refine SH.g_slS ?_ ?_); (· omega))
  | ((with_reducible refine SH.g_lenS ?_ ?_); (· omega))
  | ((with_reducible refine' SH.g_bml ?ga ?gz); (case ga => walk_at "sq")))
namespace SH
open PySem PySem.Spec PyProof.Rows L2 TL NumText
theorem par_sub (S : List Nat) : ∀ (l acc a b : List Nat), par S acc l = some (a, b) → a.length ≤ acc.length + l.length ∧ b.length ≤ l.length
  | [], acc, a, b, h => by cases h
  | x :: r, acc, a, b, h => by
    have h' : (if pre S (x :: r) = true then some (acc, (x :: r).drop S.length) else par S (acc ++ [x]) r) = some (a, b) := h
    split at h'
    · cases h'
      refine ⟨by simp, ?_⟩
      rw [List.length_drop]
      omega
    · obtain ⟨h1, h2⟩ := par_sub S r _ _ _ h'
      rw [List.length_append, List.length_singleton] at h1
      rw [List.length_cons]
      omega
theorem parts_len {z : Str} {n : Nat} (h : PlT z n) : (partsS z).1.length ≤ n ∧ (partsS z).2.2.length ≤ n := by
  unfold partsS
  have h0 : ("" : Str).length ≤ n := by rw [len_tl, tl_none]; exact Nat.zero_le _
  split
  · rename_i l e
    have hl := (lines_ok h l (by rw [e]; simp)).len
    have hl2 := hl
    rw [len_tl] at hl2
    have pp := partition_par l "/" (by rw [tl_slash]; simp)
    rw [pp]
    split
    · rename_i a b e2
      obtain ⟨h1, h2⟩ := par_sub _ _ _ _ _ e2
      rw [List.length_nil, Nat.zero_add] at h1
      refine ⟨?_, ?_⟩
      · show a.toArray.size ≤ n
        rw [List.size_toArray]; omega
      · show b.toArray.size ≤ n
        rw [List.size_toArray]; omega
    · exact ⟨hl, Nat.zero_le _⟩
  · exact ⟨h0, h0⟩
def v2of (z : Str) : V := if (partsS z).2.1 = "" then .int 1 else iwV 18 (partsS z).2.2
theorem readF_eq (z : Str) : readF z = fin2 z (iwV 18 (partsS z).1) (v2of z) := rfl
def spReadF (K : PySem.W.Frag) : Sp := fun vs H Q E => ∃ v, vs = [v] ∧ ((∃ z, v = .str z ∧ PlT z 4000 ∧ (∀ p q, readF z = some (p, q) → ∀ H' t, H' t = some (.tup [.int p, .int q]) → Off [] H H' → Q (.ref t) H') ∧ (readF z = none → ∀ H', Off [] H H' → RaiseW (He.ga K "BadText") "line" (.int 1) H' E)) ∨
  ∃ kd, KdV K H v kd ∧ kd ≠ .str ∧ ∀ H', Off [] H H' → RaiseW (He.ga K "BadText") "line" (.int 0) H' E)
/-- what reading a fraction comes to, as data -/
def fdD (z : Str) : PyData := match dueF z with
  | some (p, q) => .tuple [.str "read", .tuple [.int p, .int q]]
  | none => .tuple [.str "bad", .int 1]
def spFDue (K : PySem.W.Frag) : Sp := fun vs H Q _ => ∃ z, vs = [.str z] ∧ PlT z 4000 ∧ ∀ H' r, Fz K H' (.ref r) (fdD z) → Off [] H H' → Q (.ref r) H'
section
variable {P : Program} {w : World} {K : PySem.W.Frag} {mg : Str → Option Value} {base : Heap}
theorem okL_read_fraction (T : Txt P w K mg) : DefL P w K mg base "read_fraction" 4 ["text"] (spReadF K) := by
  refine T.d_read_fraction.okL sc_read_fraction (fun _ _ _ _ _ _ us hl => match us, hl with | [_], _ => rfl) (fun vs H Q E h => ?_) (fun f cdv A outer s H vs Q E hr h => ?_)
  · obtain ⟨v, rfl, _⟩ := h
    rfl
  · obtain ⟨v, rfl, h⟩ := h
    have hsz := sizeLine_eq
    have B := T.blt
    have hu := hu_of hr
    have G_lines_of := ok_lines_of (base := base) T
    have G_integer_of := ok_integer_of (base := base) T
    have X_BadText := T.x_BadText
    have c_LONGEST := T.c_LONGEST
    have G_is_fraction := ok_is_fraction (base := base) T
    have G_write_fraction := ok_write_fraction (base := base) T
    refine ⟨_, (pss_cons (ps_set (i := 1) sc_read_fraction.nd rfl (by first | exact Or.inl rfl | exact Or.inr rfl) (pe_df G_lines_of (hr.mono (by decide)) (L2N.passes_call (L2N.takes_of rfl rfl rfl rfl) fun _ _ _ _ z => z) (pa_cons (pv 0) pa_nil)))
  (pss_cut (ps_asg (pe_ifExp (pt_cmpR op_eq (pe_callB (c_lenK (K := K) rfl) (by rfl) B.b_len PySem.boot_len (pa_cons (pv 1) pa_nil)) pe_int (nomark _)) (pe_partnS (pe_ix (ix_listK (K := K) rfl) (pv 1) pe_int (fun _ _ => rfl)) pe_str) (pe_tup (pa_cons pe_str (pa_cons pe_str (pa_cons pe_str pa_nil))))) (pg_tupK (K := K) (n := 3) rfl rfl (pgs_cons (pg_name (i := 2) sc_read_fraction.nd rfl (by first | exact Or.inl rfl | exact Or.inr rfl)) (pgs_cons (pg_name (i := 3) sc_read_fraction.nd rfl (by first | exact Or.inl rfl | exact Or.inr rfl)) (pgs_cons (pg_name (i := 4) sc_read_fraction.nd rfl (by first | exact Or.inl rfl | exact Or.inr rfl)) pgs_nil)))))
  (pss_cut (ps_set (i := 5) sc_read_fraction.nd rfl (by first | exact Or.inl rfl | exact Or.inr rfl) (pe_tup (pa_cons (pe_df G_integer_of (hr.mono (by decide)) (L2N.passes_call (L2N.takes_of rfl rfl rfl rfl) fun _ _ _ _ z => z) (pa_cons (pv 2) (pa_cons (pe_cint c_LONGEST) pa_nil))) (pa_cons (pe_ifExp (pt_cmpR op_eq (pv 3) pe_str (nomark _)) pe_int (pe_df G_integer_of (hr.mono (by decide)) (L2N.passes_call (L2N.takes_of rfl rfl rfl rfl) fun _ _ _ _ z => z) (pa_cons (pv 4) (pa_cons (pe_cint c_LONGEST) pa_nil)))) pa_nil))))
  (pss_cons (ps_if (PW.pt (pw_or (pt_not (pt_val (pe_df G_is_fraction (hr.mono (by decide)) (L2N.passes_call (L2N.takes_of rfl rfl rfl rfl) fun _ _ _ _ z => z) (pa_cons (pv 5) pa_nil)) (by intro _; rfl))) (pw_or1 (pt_cmpR op_ne (pe_df G_write_fraction (hr.mono (by decide)) (L2N.passes_call (L2N.takes_of rfl rfl rfl rfl) fun _ _ _ _ z => z) (pa_cons (pv 5) pa_nil)) (pv 0) (nomark _)))))
    (pss_one (ps_raiseXs rfl X_BadText (hr.mono (by decide)) (L2N.takes_of rfl rfl rfl rfl) (pa_cons pe_int pa_nil)))
    pss_nil)
  (pss_one (ps_ret (pv 5))))))), ?_⟩
    walk_at "go"
    rcases h with ⟨z, rfl, hz, q1, q2⟩ | ⟨kd, hk, nk, q⟩
    rotate_left 1
    · exact ⟨_, rfl, .inr (.inr ⟨kd, hk, nk, fun d hd => q _ (.refl _ _) d hd⟩)⟩
    have hzl := hz.len
    refine ⟨_, rfl, .inl ⟨z, rfl, by omega, fun H1 p1 e1 hp1 o1 => ?_⟩⟩
    obtain ⟨la, lc⟩ := parts_len hz
    walk_at "go"
    refine g_cut (fun σ' H' => σ' = [some (.str z), some (.ref p1), some (.str (partsS z).1), some (.str (partsS z).2.1), some (.str (partsS z).2.2), none] ∧ Off [] H1 H') ?_ ?_
    · walk_at "go"
      refine br_d (fun c => ?_) (fun c => ?_)
      · rw [List.length_map] at c
        obtain ⟨l, el⟩ : ∃ l, linesS z = [l] := by
          match h : linesS z, c with
          | [l], _ => exact ⟨l, rfl⟩
          | [], c => exact absurd c (by simp)
          | _ :: _ :: _, c => exact absurd c (by simp; omega)
        have ep : partsS z = Txt.partition l "/" := by unfold partsS; rw [el]
        have hll := (lines_ok hz l (by rw [el]; simp)).len
        rw [el] at e1
        walk_at "go"
        refine g_partn (by kernel_rfl) (by omega) fun p hp => ?_
        walk_at "go"
        rw [ep]
        exact ⟨rfl, .new hp⟩
      · have ep : partsS z = (("" : Str), ("" : Str), ("" : Str)) := by
          unfold partsS
          split
          · rename_i l e
            rw [e] at c
            exact absurd rfl c
          · rfl
        walk_at "go"
        rename_i p hp
        rw [ep]
        exact ⟨rfl, .new hp⟩
    · rintro σ' H2 ⟨rfl, o2⟩
      generalize ea : (partsS z).1 = pa at *
      generalize eb : (partsS z).2.1 = pb at *
      generalize ec : (partsS z).2.2 = pc at *
      refine g_cut (fun σ' H' => ∃ t, σ' = [some (.str z), some (.ref p1), some (.str pa), some (.str pb), some (.str pc), some (.ref t)] ∧ H' t = some (.tup [iwV 18 pa, v2of z]) ∧ Off [] H2 H') ?_ ?_
      · walk_at "go"
        refine ⟨pa, 18, rfl, by omega, by omega, fun H3 o3 => ?_⟩
        walk_at "go"
        refine br_d (fun c => ?_) (fun c => ?_)
        · walk_at "go"
          rename_i t ht
          refine ⟨t, rfl, ?_, o3.new2 ht⟩
          unfold v2of
          rw [eb, if_pos c]
          exact upd_same
        · walk_at "go"
          refine ⟨pc, 18, rfl, by omega, by omega, fun H4 o4 => ?_⟩
          walk_at "go"
          rename_i t ht
          refine ⟨t, rfl, ?_, (o3.trans o4).new2 ht⟩
          unfold v2of
          rw [eb, ec, if_neg c]
          exact upd_same
      · rintro σ' H3 ⟨t, rfl, ht, o3⟩
        have oo := (o1.trans o2).trans o3
        have rd := readF_eq z
        rw [ea] at rd
        have f2 : flB (v2of z) = true := by
          unfold v2of
          split
          · rfl
          · exact iw_flat _ _
        have bd : ∀ j, v2of z = .int j → j.natAbs < 10 ^ 18 := fun j hj => by
          unfold v2of at hj
          split at hj
          · cases hj; decide
          · exact (iw_bound hj).1
        walk_at "go"
        refine ⟨_, rfl, .inl ⟨t, _, rfl, .of ht, fun _ => by rw [List.all_cons, List.all_cons, iw_flat, f2]; rfl, ?_⟩⟩
        cases hf : fracB [iwV 18 pa, v2of z] with
        | false =>
          have hn : readF z = none := by
            rw [rd]
            unfold fin2
            split
            · rename_i p q e1 e2
              rw [e1, e2] at hf
              rw [if_neg]
              rintro ⟨h, _⟩
              rw [show fracB [.int p, .int q] = fracZ p q from rfl, h] at hf
              cases hf
            · rfl
          walk_at "go"
          exact fun d hd => q2 hn H3 oo d hd
        | true =>
          obtain ⟨p, q, e1, e2, h⟩ : ∃ p q, iwV 18 pa = .int p ∧ v2of z = .int q ∧ fracZ p q = true := by
            revert hf
            generalize iwV 18 pa = u
            generalize v2of z = v
            unfold fracB
            split
            · rename_i p q e
              intro h
              cases e
              exact ⟨p, q, rfl, rfl, h⟩
            · intro h; cases h
          rw [e1, e2] at ht rd
          walk_at "go"
          refine ⟨_, rfl, .inl ⟨t, p, q, rfl, .of ht, h, (iw_bound e1).1, bd q e2, ?_⟩⟩
          walk_at "go"
          have rd' : readF z = if fracZ p q = true ∧ wrF p q = z then some (p, q) else none := rd
          by_cases c : wrF p q = z
          · refine br_NT c ?_
            walk_at "go"
            rw [if_pos ⟨h, c⟩] at rd'
            exact q1 p q rd' H3 t ht oo
          · refine br_NF c ?_
            walk_at "go"
            rw [if_neg (fun z => c z.2)] at rd'
            exact fun d hd => q2 rd' H3 oo d hd
theorem ok_read_fraction (T : Txt P w K mg) : DefOk P w K mg base "read_fraction" 4 ["text"] (spReadF K) := (okL_read_fraction T).ok
theorem ok_law_is_frac (T : Txt P w K mg) : DefOk P w K mg base "_law_is_frac" 1 ["value"] (spLFrac K) := by
  refine T.d_law_is_frac.ok sc_law_is_frac (fun _ _ _ _ _ _ us hl => match us, hl with | [_], _ => rfl) (fun vs H Q E h => ?_) (fun f cdv A outer s H vs Q E hr h => ?_)
  · obtain ⟨t, p, q, rfl, _⟩ := h
    rfl
  · obtain ⟨t, p, q, rfl, ht, k⟩ := h
    have hsz := sizeLine_eq
    have B := T.blt
    have hu := hu_of hr
    refine ⟨_, (pss_cons (ps_if (PW.pt (pw_or (pt_not (pt_val (pe_callB (call_isiK' (K := K) rfl) (by rfl) B.b_isinstance (by decide +kernel) (pa_cons (pv 0) (pa_cons (pe_bltn (v := .ty "tuple") rfl B.b_tuple (by decide +kernel) rfl) pa_nil))) (by intro _; rfl))) (pw_or (pt_cmpR op_ne (pe_callB (c_lenK (K := K) rfl) (by rfl) B.b_len PySem.boot_len (pa_cons (pv 0) pa_nil)) pe_int (nomark _)) (pw_or1 (pt_cmpR (op_neDK (K := K) rfl hr.units) (pe_lc (own := [("one", 1)]) rfl sc_law_is_frac.nd (pi_tupK (K := K) rfl (pv 0)) (blkOk_by (own := [("one", 1)]) (N := ["value", "one", "two"]) (sc := defScope s_law_is_frac) (by decide +kernel)) (fun _ _ _ _ _ => (pg_name (i := 1) sc_law_is_frac.nd rfl (by first | exact Or.inl rfl | exact Or.inr rfl))) (fun _ _ _ _ _ => (pts_one (PW.pt (pw_or (pt_not (pt_val (pe_callB (call_isiK' (K := K) rfl) (by rfl) B.b_isinstance (by decide +kernel) (pa_cons (pv 1) (pa_cons (pe_bltn (v := .ty "int") rfl B.b_int (by decide +kernel) rfl) pa_nil))) (by intro _; rfl))) (pw_or1 (pt_val (pe_callB (call_isiK' (K := K) rfl) (by rfl) B.b_isinstance (by decide +kernel) (pa_cons (pv 1) (pa_cons (pe_bltn (v := .ty "bool") rfl B.b_bool (by decide +kernel) rfl) pa_nil))) (by intro _; rfl))))))) (fun _ _ _ _ _ => (pv 1))) (pe_lst pa_nil) (nomark _))))))
    (pss_one (ps_ret pe_bl))
    pss_nil)
  (pss_cons (ps_par (i := 1) (j := 2) (by rfl) sc_law_is_frac.nd rfl rfl (by decide) rfl rfl (pa_cons (pe_callB c_abs (by rfl) B.b_abs (by decide +kernel) (pa_cons (pe_ix (ix_tupK (K := K) rfl) (pv 0) pe_int (fun _ _ => rfl)) pa_nil)) (pa_cons (pe_ix (ix_tupK (K := K) rfl) (pv 0) pe_int (fun _ _ => rfl)) pa_nil)) (by rfl))
  (pss_cons (ps_if (pt_cmpR op_lt (pv 2) pe_int (nomark _))
    (pss_one (ps_ret pe_bl))
    pss_nil)
  (pss_cons (ps_while (passes_of rfl) (pt_cmpR op_gt (pv 2) pe_int (nomark _))
    (pss_one (ps_par (i := 1) (j := 2) (by rfl) sc_law_is_frac.nd rfl rfl (by decide) rfl rfl (pa_cons (pv 2) (pa_cons (pe_op op_modN (pe_callTy c_int (by rfl) B.b_int (by decide +kernel) (pa_cons (pv 1) pa_nil)) (pv 2)) pa_nil)) (by rfl))))
  (pss_one (ps_ret (pe_cmpR op_eq (pv 1) pe_int (nomark _)))))))), ?_⟩
    have hk : KdV K H (.ref t) .tup := .tup (.of ht)
    walk_at "go"
    refine br_NT rfl ?_
    walk_at "go"
    refine lcT_pure (fun x => x) (fun _ => false) (.of ht) (by rw [hsz]; exact Nat.le_of_ble_eq_true rfl) (fun _ => rfl) ?_ ?_ ?_
    · intro x H1 hx o1 M kk
      obtain ⟨i, rfl⟩ : ∃ i : Int, x = .int i := by
        simp only [List.mem_cons, List.not_mem_nil, or_false] at hx
        rcases hx with rfl | rfl
        · exact ⟨p, rfl⟩
        · exact ⟨q, rfl⟩
      walk_at "go"
      rw [show (!(Kd.int == Kd.int || Kd.int == Kd.bl)) = false from rfl]
      walk_at "go"
      exact kk _ (.refl _ _)
    · intro x H1 hx hc
      cases hc
    · intro D H1 hD o1 e4
      have e5 : H1 D = some (.lst []) := e4
      have ht1 := o1.tups _ _ ht
      walk_at "go"
      rename_i e he
      refine g_neD (.lst (.of (upd_new e5 he)) .nil) (.lst (.of upd_same) .nil) rfl rfl ?_
      rw [show PyData.eqv (.list []) (.list []) = true from rfl]
      have ht2 := upd_new (o := .lst []) ht1 he
      have oo : Off [] H (upd H1 e (.lst [])) := o1.new2 he
      generalize upd H1 e (.lst []) = H2 at *
      walk_at "go"
      refine br_d (fun c => ?_) (fun c => ?_)
      · walk_at "go"
        refine qb (k _ oo) ?_
        show (decide (1 ≤ q) && _) = false
        rw [decide_eq_false (by omega), Bool.false_and]
      have ea : (if p < 0 then -p else p) = ((p.natAbs : Nat) : Int) := by split <;> omega
      have ej : q = ((q.toNat : Nat) : Int) := by omega
      walk_at "go"
      refine g_while (fun m σ H' => ∃ x y : Nat, σ = [some (.ref t), some (.int (x : Int)), some (.int (y : Int))] ∧ H' = H2 ∧ Nat.gcd x y = Nat.gcd p.natAbs q.toNat ∧ m = y) q.toNat ⟨p.natAbs, q.toNat, by rw [← ea, ← ej]; rfl, rfl, rfl, rfl⟩ (fun m σ H' hW => ?_)
      obtain ⟨x, _, rfl, rfl, hg, rfl⟩ := hW
      walk_at "go"
      refine br_d (fun c => ?_) (fun c => ?_)
      · refine g_whN ?_
        walk_at "go"
        have e := Int.fmod_eq_emod_of_nonneg (x : Int) (show (0 : Int) ≤ (m : Int) by omega)
        refine ⟨_, _, rfl, x % m, Nat.mod_lt _ (by omega), m, x % m, ?_, rfl, ?_, rfl⟩
        · rw [e, ← Int.natCast_emod]
          rfl
        · rw [← hg, Nat.gcd_comm x m, Nat.gcd_rec m x, Nat.gcd_comm]
      · have : m = 0 := by omega
        subst this
        walk_at "go"
        rw [Nat.gcd_zero_right] at hg
        rw [hg]
        refine qb (k _ oo) ?_
        show (decide (1 ≤ q) && decide (Nat.gcd p.natAbs q.toNat = 1)) = _
        rw [decide_eq_true (show 1 ≤ q by omega), Bool.true_and]
        apply decide_eq_decide.mpr
        omega
theorem ok_law_fraction_due (T : Txt P w K mg) : DefOk P w K mg base "_law_fraction_due" 2 ["text"] (spFDue K) := by
  refine T.d_law_fraction_due.ok sc_law_fraction_due (fun _ _ _ _ _ _ us hl => match us, hl with | [_], _ => rfl) (fun vs H Q E h => ?_) (fun f cdv A outer s H vs Q E hr h => ?_)
  · obtain ⟨z, rfl, _⟩ := h
    rfl
  · obtain ⟨z, rfl, hz, k⟩ := h
    have hsz := sizeLine_eq
    have hzl := hz.len
    have B := T.blt
    have hu := hu_of hr
    have G_law_number := ok_law_number (base := base) T
    have G_law_is_frac := ok_law_is_frac (base := base) T
    refine ⟨_, (pss_cut (ps_set (i := 1) sc_law_fraction_due.nd rfl (by first | exact Or.inl rfl | exact Or.inr rfl) (pe_ifExp (pt_cmpR op_eq (pe_slice sl_str (pv 0) po_none (po_some pe_int)) pe_str (nomark _)) (pe_un un_neg pe_int) pe_int))
  (pss_cut (ps_set (i := 2) sc_law_fraction_due.nd rfl (by first | exact Or.inl rfl | exact Or.inr rfl) (pe_splitS (pe_ifExp (pt_cmpR op_lt (pv 1) pe_int (nomark _)) (pe_slice sl_str (pv 0) (po_some pe_int) po_none) (pv 0)) pe_str))
  (pss_cons (ps_setLc (i := 3) (own := [("word", 5)]) rfl sc_law_fraction_due.nd rfl rfl (sw_true rfl rfl rfl (by decide +kernel)) (pi_listK (K := K) rfl (pv 2)) (blkOk_by (own := [("word", 5)]) (N := ["text", "sign", "words", "parts", "found", "word"]) (sc := defScope s_law_fraction_due) (by decide +kernel)) (fun _ _ _ _ _ => (pg_name (i := 5) sc_law_fraction_due.nd rfl (by first | exact Or.inl rfl | exact Or.inr rfl))) (fun _ _ _ _ _ => pts_nil) (fun _ _ _ _ _ => (pe_df G_law_number (hr.mono (by decide)) passN (pa_cons (pv 5) (pa_cons pe_int pa_nil)))))
  (pss_cons (ps_set (i := 4) sc_law_fraction_due.nd rfl (by first | exact Or.inl rfl | exact Or.inr rfl) (pe_tup (pa_cons (pe_op op_mul (pv 1) (pe_ix (ix_listK (K := K) rfl) (pv 3) pe_int (fun _ _ => rfl))) (pa_cons (pe_ifExp (pt_cmpR op_eq (pe_callB (c_lenK (K := K) rfl) (by rfl) B.b_len PySem.boot_len (pa_cons (pv 3) pa_nil)) pe_int (nomark _)) (pe_ix (ix_listK (K := K) rfl) (pv 3) pe_int (fun _ _ => rfl)) pe_int) pa_nil))))
  (pss_cons (ps_if (PW.pt (pw_or (pt_cmpR op_gt (pe_callB (c_lenK (K := K) rfl) (by rfl) B.b_len PySem.boot_len (pa_cons (pv 3) pa_nil)) pe_int (nomark _)) (pw_or (pt_cmpR op_lt (pe_callB (cr_min rfl) (by rfl) B.b_min (by decide +kernel) (pa_cons (pv 3) pa_nil)) pe_int (nomark _)) (pw_or (PW.pt (pw_and (pt_cmpR op_lt (pv 1) pe_int (nomark _)) (pw_and1 (pt_cmpR op_eq (pe_ix (ix_listK (K := K) rfl) (pv 3) pe_int (fun _ _ => rfl)) pe_int (nomark _))))) (pw_or (PW.pt (pw_and (pt_cmpR op_eq (pe_callB (c_lenK (K := K) rfl) (by rfl) B.b_len PySem.boot_len (pa_cons (pv 3) pa_nil)) pe_int (nomark _)) (pw_and1 (pt_cmpR op_lt (pe_ix (ix_listK (K := K) rfl) (pv 3) pe_int (fun _ _ => rfl)) pe_int (nomark _))))) (pw_or1 (pt_not (pt_val (pe_df G_law_is_frac (hr.mono (by decide)) (L2N.passes_call (L2N.takes_of rfl rfl rfl rfl) fun _ _ _ _ z => z) (pa_cons (pv 4) pa_nil)) (by intro _; rfl)))))))))
    (pss_one (ps_ret (pe_tup (pa_cons pe_str (pa_cons pe_int pa_nil)))))
    pss_nil)
  (pss_one (ps_ret (pe_tup (pa_cons pe_str (pa_cons (pv 4) pa_nil)))))))))), ?_⟩
    have t1 : tl (cutS z none (some 1)) = (tl z).take 1 := tl_cut_take 1
    have hsg : sgn (tl z) = if cutS z none (some 1) = "-" then -1 else 1 := by
      unfold sgn
      by_cases c : cutS z none (some 1) = "-"
      · rw [if_pos c, if_pos (by rw [← t1, c, tl_minus])]
      · rw [if_neg c, if_neg (fun e => c (ext_tl (by rw [t1, e, tl_minus])))]
    refine g_cut (fun σ' H' => σ' = [some (.str z), some (.int (sgn (tl z))), none, none, none, none] ∧ H' = H) ?_ ?_
    · walk_at "go"
      refine br_d (fun c => ?_) (fun c => ?_)
      · walk_at "go"
        rw [hsg, if_pos c]
        exact ⟨rfl, rfl⟩
      · walk_at "go"
        rw [hsg, if_neg c]
        exact ⟨rfl, rfl⟩
    rintro σ' H' ⟨rfl, rfl⟩
    refine g_cut (fun σ' H1 => ∃ W, σ' = [some (.str z), some (.int (sgn (tl z))), some (.ref W), none, none, none] ∧ H1 W = some (.lst ((dueW (tailS z)).map V.str)) ∧ Off [] H' H1) ?_ ?_
    · walk_at "go"
      refine br_d (fun c => ?_) (fun c => ?_)
      · have c' : cutS z none (some 1) = "-" := by
          by_cases h : cutS z none (some 1) = "-"
          · exact h
          · rw [hsg, if_neg h] at c
            exact absurd c (by decide)
        have et : tailS z = cutS z (some 1) none := if_pos c'
        have hl := cutS_length z (some 1) none
        walk_at "go"
        refine g_split (by kernel_rfl) (by omega) fun W hW => ?_
        walk_at "go"
        exact ⟨W, rfl, by rw [upd_same]; unfold dueW; rw [et], .new hW⟩
      · have c' : ¬ cutS z none (some 1) = "-" := fun h => by
          rw [hsg, if_pos h] at c
          exact c (by decide)
        have et : tailS z = z := if_neg c'
        walk_at "go"
        refine g_split (by kernel_rfl) (by omega) fun W hW => ?_
        walk_at "go"
        exact ⟨W, rfl, by rw [upd_same]; unfold dueW; rw [et], .new hW⟩
    rintro σ' H1 ⟨W, rfl, eW, o1⟩
    have pt : PlT (tailS z) 4000 := by
      unfold tailS
      split
      · refine ⟨Nat.le_trans (cutS_length _ _ _) hzl, fun c hc => hz.sg c ?_⟩
        have t2 : tl (cutS z (some 1) none) = (tl z).drop 1 := tl_cut_drop 1
        rw [t2] at hc
        exact List.mem_of_mem_drop hc
      · exact hz
    obtain ⟨wk, wne⟩ := split_ok pt (y := "/") (by rw [tl_slash]; simp) (by kernel_rfl)
    have wl : (dueW (tailS z)).length ≤ (tailS z).length + 2 := PyProof.Rows.split_le (tailS z) "/"
    have ptl := pt.len
    have ws : ∃ ws, ws = dueW (tailS z) := ⟨_, rfl⟩
    obtain ⟨ws, ews⟩ := ws
    have wk' : ∀ w ∈ ws, PlT w 4000 := fun w hw => wk w (by rw [ews] at hw; exact hw)
    have wne' : ws ≠ [] := by rw [ews]; exact wne
    rw [← ews] at eW wl
    have edf : dueF z = match ws.map numF with
      | [n] => if 0 ≤ n ∧ ¬ (sgn (tl z) < 0 ∧ n = 0) ∧ fracZ (sgn (tl z) * n) 1 = true then some (sgn (tl z) * n, 1) else none
      | [n, m] => if 0 ≤ n ∧ 0 ≤ m ∧ ¬ (sgn (tl z) < 0 ∧ n = 0) ∧ ¬ m < 2 ∧ fracZ (sgn (tl z) * n) m = true then some (sgn (tl z) * n, m) else none
      | _ => none := by rw [ews]; rfl
    have hs1 : sgn (tl z) = -1 ∨ sgn (tl z) = 1 := by
      unfold sgn
      split
      · exact .inl rfl
      · exact .inr rfl
    walk_at "go"
    refine lcL_pure (fun x => match x with | .str w => .int (numF w) | y => y) (fun _ => true) (.of eW) (by rw [List.length_map]; omega) (fun _ => rfl) ?_ ?_ ?_
    · intro x H3 hx o3 M kk
      walk_at "go"
      exact kk _ (.refl _ _)
    · intro x H3 hx hc1 o3 M kk
      obtain ⟨w1, hw1, rfl⟩ := List.mem_map.mp hx
      walk_at "go"
      exact ⟨w1, 18, rfl, (wk' w1 hw1).mono (by decide), by omega, fun H4 o4 => kk _ o4⟩
    · intro D H3 hD o3 e4
      have ez : ((ws.map V.str).filter fun _ => true).map (fun x => match x with | .str w => .int (numF w) | y => y) = (ws.map numF).map V.int := by
        rw [List.filter_eq_self.mpr (fun _ _ => rfl), List.map_map, List.map_map]; rfl
      rw [ez] at e4
      have oo := o1.trans o3
      have nb : ∀ w, -1 ≤ numF w ∧ numF w < 10 ^ 18 := fun w => by
        by_cases h : 0 ≤ numF w
        · obtain ⟨n, e, _, hn⟩ := numF_some h
          rw [e]
          have : ((n : Nat) : Int) < ((10 ^ 18 : Nat) : Int) := by omega
          exact ⟨by omega, by simpa using this⟩
        · unfold numF at h ⊢
          split
          · rename_i n e
            rw [e] at h
            exact absurd (Int.natCast_nonneg n) h
          · exact ⟨by decide, by decide⟩
      have bad : dueF z = none → ∀ H' r, Off [] H3 H' → H' r = some (.tup [.str "bad", .int 1]) → Q (.ref r) H' := fun h H' r o e => by
        refine k H' r ?_ (oo.trans o)
        unfold fdD
        rw [h]
        exact Fz.tup e (.cons (Fz.str _) (.cons (.int _) .nil))
      have good : ∀ p q, dueF z = some (p, q) → ∀ H' r t, Off [] H3 H' → H' r = some (.tup [.str "read", .ref t]) → H' t = some (.tup [.int p, .int q]) → Q (.ref r) H' := fun p q h H' r t o e e2 => by
        refine k H' r ?_ (oo.trans o)
        unfold fdD
        rw [h]
        exact Fz.tup e (.cons (Fz.str _) (.cons (Fz.tup e2 (.cons (.int _) (.cons (.int _) .nil))) .nil))
      have hmul : ∀ j, CMul (sgn (tl z)) j := fun j => .inl (by rcases hs1 with h | h <;> rw [h] <;> exact ⟨by decide +kernel, by decide +kernel⟩)
      have e18 : (10 : Int) ^ 18 = 1000000000000000000 := by decide +kernel
      walk_at "go"
      clear ews wk wne wk'
      match ws, wne', e4, edf with
      | [], h, _, _ => exact absurd rfl h
      | [w], _, e4, edf =>
        have e4' : H3 D = some (.lst [.int (numF w)]) := e4
        have edf' : dueF z = if 0 ≤ numF w ∧ ¬ (sgn (tl z) < 0 ∧ numF w = 0) ∧ fracZ (sgn (tl z) * numF w) 1 = true then some (sgn (tl z) * numF w, 1) else none := edf
        have nb1 := nb w
        rw [e18] at nb1
        clear e4 edf nb
        generalize numF w = n at *
        walk_at "go"
        refine br_F (by simp) ?_
        walk_at "go"
        rename_i t ht
        have e5 := upd_new (o := .tup [.int (sgn (tl z) * n), .int 1]) e4' ht
        have et : (upd H3 t (.tup [.int (sgn (tl z) * n), .int 1])) t = some (.tup [.int (sgn (tl z) * n), .int 1]) := upd_same
        have oT : Off [] H3 (upd H3 t (.tup [.int (sgn (tl z) * n), .int 1])) := .new ht
        generalize upd H3 t (.tup [.int (sgn (tl z) * n), .int 1]) = H4 at *
        clear e4' ht
        refine br_F (by simp) ?_
        walk_at "go"
        refine ⟨D, [n], rfl, .of e5, by simp, fun mm hm _ => ?_⟩
        have emm : mm = n := by simpa using hm
        subst emm
        walk_at "go"
        refine br_d (fun d1 => ?_) (fun d1 => ?_)
        · walk_at "go"
          rename_i r hr2
          exact bad (by rw [edf', if_neg (fun h => absurd h.1 (by omega))]) _ r (oT.new2 hr2) upd_same
        walk_at "go"
        have tail : ¬ (sgn (tl z) < 0 ∧ mm = 0) → ∀ M : Prop, M → M := fun _ _ h => h
        have fin : ∀ H5, Off [] H4 H5 → ¬ (sgn (tl z) < 0 ∧ mm = 0) → (fracZ (sgn (tl z) * mm) 1 = false → ∀ r, H5 r = none → Q (.ref r) (upd H5 r (.tup [.str "bad", .int 1]))) ∧ (fracZ (sgn (tl z) * mm) 1 = true → ∀ r, H5 r = none → Q (.ref r) (upd H5 r (.tup [.str "read", .ref t]))) := fun H5 o5 hn =>
          ⟨fun hf r hr2 => bad (by rw [edf', if_neg (fun h => by rw [hf] at h; exact absurd h.2.2 (by decide))]) _ r ((oT.trans o5).new2 hr2) upd_same,
           fun hf r hr2 => good _ _ (by rw [edf', if_pos ⟨by omega, hn, hf⟩]) _ r t ((oT.trans o5).new2 hr2) upd_same (upd_new (o5.tups _ _ et) hr2)⟩
        refine br_d (fun d2 => ?_) (fun d2 => ?_)
        · walk_at "go"
          refine br_d (fun d3 => ?_) (fun d3 => ?_)
          · walk_at "go"
            rename_i r hr2
            exact bad (by rw [edf', if_neg (fun h => h.2.1 ⟨d2, d3⟩)]) _ r (oT.new2 hr2) upd_same
          · walk_at "go"
            refine br_F (by simp) ?_
            walk_at "go"
            refine ⟨t, _, _, rfl, et, fun H5 o5 => ?_⟩
            obtain ⟨f1, f2⟩ := fin H5 o5 (fun h => d3 h.2)
            cases hf : fracZ (sgn (tl z) * mm) 1 with
            | false =>
              walk_at "go"
              rename_i r hr2
              exact f1 hf r hr2
            | true =>
              walk_at "go"
              rename_i r hr2
              exact f2 hf r hr2
        · walk_at "go"
          refine br_F (by simp) ?_
          walk_at "go"
          refine ⟨t, _, _, rfl, et, fun H5 o5 => ?_⟩
          obtain ⟨f1, f2⟩ := fin H5 o5 (fun h => d2 h.1)
          cases hf : fracZ (sgn (tl z) * mm) 1 with
          | false =>
            walk_at "go"
            rename_i r hr2
            exact f1 hf r hr2
          | true =>
            walk_at "go"
            rename_i r hr2
            exact f2 hf r hr2
      | [w, w2], _, e4, edf =>
        have e4' : H3 D = some (.lst [.int (numF w), .int (numF w2)]) := e4
        have edf' : dueF z = if 0 ≤ numF w ∧ 0 ≤ numF w2 ∧ ¬ (sgn (tl z) < 0 ∧ numF w = 0) ∧ ¬ numF w2 < 2 ∧ fracZ (sgn (tl z) * numF w) (numF w2) = true then some (sgn (tl z) * numF w, numF w2) else none := edf
        have nb1 := nb w
        rw [e18] at nb1
        clear e4 edf nb
        generalize numF w = n at *
        generalize numF w2 = n2 at *
        walk_at "go"
        refine br_T (by simp) ?_
        walk_at "go"
        rename_i t ht
        have e5 := upd_new (o := .tup [.int (sgn (tl z) * n), .int n2]) e4' ht
        have et : (upd H3 t (.tup [.int (sgn (tl z) * n), .int n2])) t = some (.tup [.int (sgn (tl z) * n), .int n2]) := upd_same
        have oT : Off [] H3 (upd H3 t (.tup [.int (sgn (tl z) * n), .int n2])) := .new ht
        generalize upd H3 t (.tup [.int (sgn (tl z) * n), .int n2]) = H4 at *
        clear e4' ht
        refine br_F (by simp) ?_
        walk_at "go"
        refine ⟨D, [n, n2], rfl, .of e5, by simp, fun mm hm hmin => ?_⟩
        have hmn : mm = n ∨ mm = n2 := by simpa using hm
        have hm1 := hmin n (by simp)
        have hm2 := hmin n2 (by simp)
        walk_at "go"
        refine br_d (fun d1 => ?_) (fun d1 => ?_)
        · walk_at "go"
          rename_i r hr2
          exact bad (by rw [edf', if_neg (fun h => by obtain ⟨a1, a2, _⟩ := h; omega)]) _ r (oT.new2 hr2) upd_same
        have p1 : 0 ≤ n := by omega
        have p2 : 0 ≤ n2 := by omega
        walk_at "go"
        have fin : ∀ H5, Off [] H4 H5 → ¬ (sgn (tl z) < 0 ∧ n = 0) → ¬ n2 < 2 → (fracZ (sgn (tl z) * n) n2 = false → ∀ r, H5 r = none → Q (.ref r) (upd H5 r (.tup [.str "bad", .int 1]))) ∧ (fracZ (sgn (tl z) * n) n2 = true → ∀ r, H5 r = none → Q (.ref r) (upd H5 r (.tup [.str "read", .ref t]))) := fun H5 o5 hn h2 =>
          ⟨fun hf r hr2 => bad (by rw [edf', if_neg (fun h => by rw [hf] at h; exact absurd h.2.2.2.2 (by decide))]) _ r ((oT.trans o5).new2 hr2) upd_same,
           fun hf r hr2 => good _ _ (by rw [edf', if_pos ⟨p1, p2, hn, h2, hf⟩]) _ r t ((oT.trans o5).new2 hr2) upd_same (upd_new (o5.tups _ _ et) hr2)⟩
        refine br_d (fun d2 => ?_) (fun d2 => ?_)
        · walk_at "go"
          refine br_d (fun d3 => ?_) (fun d3 => ?_)
          · walk_at "go"
            rename_i r hr2
            exact bad (by rw [edf', if_neg (fun h => h.2.2.1 ⟨d2, d3⟩)]) _ r (oT.new2 hr2) upd_same
          · walk_at "go"
            refine br_T (by simp) ?_
            walk_at "go"
            refine br_d (fun d4 => ?_) (fun d4 => ?_)
            · walk_at "go"
              rename_i r hr2
              exact bad (by rw [edf', if_neg (fun h => h.2.2.2.1 d4)]) _ r (oT.new2 hr2) upd_same
            walk_at "go"
            refine ⟨t, _, _, rfl, et, fun H5 o5 => ?_⟩
            obtain ⟨f1, f2⟩ := fin H5 o5 (fun h => d3 h.2) d4
            cases hf : fracZ (sgn (tl z) * n) n2 with
            | false =>
              walk_at "go"
              rename_i r hr2
              exact f1 hf r hr2
            | true =>
              walk_at "go"
              rename_i r hr2
              exact f2 hf r hr2
        · walk_at "go"
          refine br_T (by simp) ?_
          walk_at "go"
          refine br_d (fun d4 => ?_) (fun d4 => ?_)
          · walk_at "go"
            rename_i r hr2
            exact bad (by rw [edf', if_neg (fun h => h.2.2.2.1 d4)]) _ r (oT.new2 hr2) upd_same
          walk_at "go"
          refine ⟨t, _, _, rfl, et, fun H5 o5 => ?_⟩
          obtain ⟨f1, f2⟩ := fin H5 o5 (fun h => d2 h.1) d4
          cases hf : fracZ (sgn (tl z) * n) n2 with
          | false =>
            walk_at "go"
            rename_i r hr2
            exact f1 hf r hr2
          | true =>
            walk_at "go"
            rename_i r hr2
            exact f2 hf r hr2
      | w :: w2 :: w3 :: r, _, e4, edf =>
        have e4' : H3 D = some (.lst ((.int (numF w) :: .int (numF w2) :: .int (numF w3) :: (r.map numF).map V.int))) := e4
        have edf' : dueF z = none := edf
        clear e4 edf nb
        generalize numF w = n at *
        generalize numF w2 = n2 at *
        generalize numF w3 = n3 at *
        generalize (r.map numF).map V.int = rr at *
        walk_at "go"
        refine g_ixL (.of e4') atI_cons0 ?_
        walk_at "go"
        refine br_F (by rw [List.length_cons, List.length_cons, List.length_cons]; omega) ?_
        walk_at "go"
        rename_i t ht
        have e5 := upd_new (o := .tup [.int (sgn (tl z) * n), .int 1]) e4' ht
        refine br_T (by rw [List.length_cons, List.length_cons, List.length_cons]; omega) ?_
        walk_at "go"
        rename_i r2 hr2
        exact bad edf' _ r2 ((Off.new ht).new2 hr2) upd_same
end
end SH
end

section
/-! #### the walk's words -/
local macro_rules | `(tactic| walk_at "ne0") => `(tactic| first
  | assumption
  | (refine Ne.symm ?_; assumption))
local macro_rules | `(tactic| walk_at "ne") => `(tactic| first
  | assumption
  | (refine Ne.symm ?_; assumption)
  | (refine' L2.ne_of_none ?gx (by assumption); (case gx => walk_at "hp"))
  | (refine' Ne.symm (L2.ne_of_none ?gx (by assumption)); (case gx => walk_at "hp")))
local macro_rules | `(tactic| walk_at "hp") => `(tactic| first
  | assumption
  | exact L2.upd_same
  | (refine' SH.upd_new ?gh (by assumption); (case gh => walk_at "hp"))
  | (refine' (L2.upd_ne ?gn).trans ?gh; (case gn => walk_at "ne0"); (case gh => walk_at "hp"))
  | (refine' SH.Off.at (by assumption) ?gn ?gh; (case gn => walk_at "nin"); (case gh => walk_at "hp")))
local macro_rules | `(tactic| walk_at "nin") => `(tactic| first
  | exact SH.nin_nil
  | (refine SH.nin_cons ?_ ?_; (· walk_at "ne0"); (· walk_at "nin")))
local macro_rules | `(tactic| walk_at "sq") => `(tactic| first
  | assumption
  | (apply L2.SqL.of; (· walk_at "hp"))
  | (apply L2.SqT.of; (· walk_at "hp"))
  | (refine' SH.seqT_new ?gx (by assumption); (case gx => walk_at "sq"))
  | (refine' SH.seqL_new ?gx (by assumption); (case gx => walk_at "sq"))
  | (refine' SH.Off.seqT (by assumption) ?gx; (case gx => walk_at "sq"))
  | (refine' SH.Off.seqL (by assumption) ?gy ?gx; (case gx => walk_at "sq"); (case gy => walk_at "nin")))
local macro_rules | `(tactic| walk_at "kd") => `(tactic| first
  | assumption | exact SH.KdV.int _ | exact SH.KdV.bl _ | exact SH.KdV.str _ | exact SH.KdV.non
  | (apply SH.KdV.tup; (· walk_at "sq")) | (apply SH.KdV.lst; (· walk_at "sq")))
/-- a way that cannot be -/
local macro_rules | `(tactic| walk_at "no") => `(tactic| (exfalso; first | assumption | omega | contradiction | (simp_all; done)))
/-- one step -/
local macro_rules | `(tactic| walk_at "g1") => `(tactic| with_reducible first
  | refine SH.g_var (by with_unfolding_all rfl) ?_ | refine SH.g_c ?_ | refine SH.g_op ?_ | refine SH.g_un ?_ | refine SH.g_I0 ?_ | refine SH.g_U ?_
  | refine SH.g_eqI ?_ | refine SH.g_neI ?_ | refine SH.g_eqS ?_ | refine SH.g_neS ?_
  | refine SH.g_test ?_ | refine SH.g_B ?_ | refine SH.g_isB ?_ | refine SH.g_and ?_ | refine SH.g_or ?_ | refine SH.g_not ?_ | refine SH.g_andV ?_ | refine SH.g_orV ?_ | refine SH.g_notV ?_ | refine SH.g_ifE ?_ | refine SH.g_chain ?_
  | refine SH.g_nil ?_ | refine SH.g_cons ?_ | refine SH.g_tup ?_ | refine SH.g_lst ?_ | refine SH.g_call ?_ | refine SH.g_fld ?_ | refine SH.g_meth ?_ | refine SH.g_make ?_ | refine SH.g_cb ?_ | refine SH.g_bm ?_
  | refine SH.g_seq ?_ | refine SH.g_asg ?_ | refine SH.g_name ?_ | refine SH.g_drop ?_ | refine SH.g_ret ?_ | refine SH.g_retN ?_ | refine SH.g_next ?_ | refine SH.g_brk ?_ | refine SH.g_cnt ?_ | refine SH.g_ifs ?_ | refine SH.g_par ?_ | refine SH.g_par2 ?_ | refine SH.g_fldS ?_ | refine SH.g_raise ?_ | refine SH.g_rs ?_
  | refine SH.g_sub ?_ | refine SH.g_yes ?_ | refine SH.g_sl ?_ | refine SH.g_noPart ?_ | refine SH.g_part ?_ | refine SH.g_intO ?_ | refine SH.g_dget ?_ | refine SH.g_dput ?_ | refine SH.g_forR ?_ | refine SH.g_forL ?_ | refine SH.g_forT ?_ | refine SH.g_lcR ?_ | refine SH.g_lcL ?_ | refine SH.g_lcT ?_ | refine SH.g_gcons ?_ | refine SH.g_gnil ?_
  | refine SH.br_t ?_ | refine SH.br_f ?_
  | refine SH.g_int ?_ | refine SH.g_abs ?_ | refine SH.g_max2 ?_ | refine SH.g_min2 ?_)
local macro_rules | `(tactic| walk_at "g2") => `(tactic| first
  | walk_at "g1"
  | ((with_reducible refine' SH.g_isiInt ?ga ?gz); (case ga => walk_at "kd"))
  | ((with_reducible refine' SH.g_isiBool ?ga ?gz); (case ga => walk_at "kd"))
  | ((with_reducible refine' SH.g_isiStr ?ga ?gz); (case ga => walk_at "kd"))
  | ((with_reducible refine' SH.g_isiTup ?ga ?gz); (case ga => walk_at "kd"))
  | ((with_reducible refine' SH.g_ixT ?ga ?gb ?gz); (case ga => walk_at "sq"); (case gb => rfl))
  | ((with_reducible refine' SH.g_ixL ?ga ?gb ?gz); (case ga => walk_at "sq"); (case gb => first | rfl | (apply SH.atI_refs; assumption)))
  | ((with_reducible refine SH.br_F ?_ ?_); (· decide +kernel)) | ((with_reducible refine SH.br_T ?_ ?_); (· decide +kernel)) | ((with_reducible refine SH.br_NF ?_ ?_); (· decide +kernel)) | ((with_reducible refine SH.br_NT ?_ ?_); (· decide +kernel))
  | ((with_reducible refine' SH.g_gtup ?ga ?gb ?gz); (case ga => walk_at "sq"); (case gb => rfl))
  | ((with_reducible refine' SH.g_lenT ?ga ?gz); (case ga => walk_at "sq"))
  | ((with_reducible refine' SH.g_lenL ?ga ?gz); (case ga => walk_at "sq"))
  | ((with_reducible refine SH.g_mkT (SH.sz rfl) ?_); intro _ _)
  | ((with_reducible refine SH.g_mkL (SH.sz rfl) ?_); intro _ _)
  | ((with_reducible refine SH.g_dnew ?_); intro _ _)
  | ((with_reducible refine' SH.g_tupL ?ga ?gz); (case ga => walk_at "sq"); intro _ _)
  | ((with_reducible refine' SH.g_lstL ?ga ?gz); (case ga => walk_at "sq"); intro _ _)
  | ((with_reducible refine' SH.g_lstT ?ga ?gz); (case ga => walk_at "sq"); intro _ _)
  | ((with_reducible refine' SH.g_dgR ?ga ?gb ?gz); (case ga => walk_at "hp"); (case gb => walk_at "dv"))
  | ((with_reducible refine' SH.g_fldR ?ga ?gb ?gc ?gd ?gz); (case ga => walk_at "hp"); (case gb => walk_at "cl"); (case gc => walk_at "na"); (case gd => walk_at "fv"))
  | ((with_reducible refine' SH.g_insR ?ga ?gb ?gz); (case ga => walk_at "hp"); (case gb => walk_at "fn"))
  | ((with_reducible refine' SH.g_setL ?ga ?gb ?gz); (case ga => walk_at "hp"); (case gb => rfl))
  | ((with_reducible refine SH.g_I ?_ ?_); (· walk_at "ci"))
  | ((with_reducible refine' SH.g_slL ?ga ?gz); (case ga => walk_at "sq"); intro _ _)
  | ((with_reducible refine' SH.g_cat ?ga ?gb ?gc ?gz); (case ga => walk_at "hp"); (case gb => walk_at "hp"); (case gc => walk_at "ls"); intro _ _))
/-- the side conditions of numbers: a divisor, a factor -/
local macro_rules | `(tactic| walk_at "ci") => `(tactic| first
  | (show _ ≠ _; omega) | (show _ < _; omega) | (constructor <;> omega) | (refine Or.inr ⟨?_, ?_⟩ <;> (show _ < _; omega)) | (refine Or.inl ⟨?_, ?_⟩ <;> (show _ < _; omega)) | (refine ⟨?_, ?_, ?_⟩ <;> decide))
local macro_rules | `(tactic| walk_at "ls") => `(tactic| first | (show _ ≤ _; exact Nat.le_trans (by assumption) (by decide)) | (show _ ≤ _; exact Nat.le_trans (by simp; omega) (by decide : 1000 ≤ sizeLine)))
local macro_rules | `(tactic| walk_at "dv") => `(tactic| rfl)
local macro_rules | `(tactic| walk_at "fv") => `(tactic| rfl)
local macro_rules | `(tactic| walk_at "fn") => `(tactic| rfl)
local macro_rules | `(tactic| walk_at "cl") => `(tactic| assumption)
local macro_rules | `(tactic| walk_at "na") => `(tactic| assumption)
local macro_rules | `(tactic| walk_at "go") => `(tactic| repeat walk_at "g2")
/-- a way is split -/
local macro_rules | `(tactic| walk_at "br") => `(tactic| with_reducible first
  | refine SH.br_d (fun _ => ?_) (fun _ => ?_) | refine SH.br_nd (fun _ => ?_) (fun _ => ?_) | refine SH.br_b (fun _ => ?_) (fun _ => ?_))
/-- all ways -/
local macro_rules | `(tactic| walk_at "all") => `(tactic| repeat' first | walk_at "g2" | (walk_at "br" <;> try (walk_at "no")))
/-- a truth value is the other -/
local macro_rules | `(tactic| walk_at "bq") => `(tactic| first | rfl | (simp_all; done) | (simp_all; omega) | (simp only [decide_eq_true_eq, decide_eq_false_iff_not, Bool.and_eq_true, Bool.or_eq_true] at *; omega))
/-- what was tracked is as it was -/
local macro_rules | `(tactic| walk_at "of") => `(tactic| first
  | assumption
  | exact SH.Off.refl _ _
  | (refine' SH.Off.new2 ?gx (by assumption); (case gx => walk_at "of"))
  | (refine' SH.Off.mut ?gx (by assumption); (case gx => walk_at "of"))
  | (refine' SH.Off.trans' ?gx (by assumption) ?gy; (case gy => (intro _ h; (first | exact h | (simp at h; done) | (simp at h ⊢; simp [h]; done)))); (case gx => walk_at "of")))
/-- texts -/
local macro_rules | `(tactic| walk_at "g2") => `(tactic| first
  | (with_reducible first | refine SH.br_ntt ?_ | refine SH.br_ntf ?_ | refine SH.br_k ?_ | refine SH.br_nk ?_ | refine SH.g_lcS ?_ | refine SH.g_leS ?_ | refine SH.g_niS ?_ | refine SH.g_strS ?_ | refine SH.g_tM1 ?_ | refine SH.g_isStr ?_ | refine SH.g_enL ?_ | refine SH.g_star ?_)
  | ((with_reducible refine SH.g_slS ?_ ?_); (· omega))
  | ((with_reducible refine SH.g_lenS ?_ ?_); (· omega))
  | ((with_reducible refine' SH.g_bml ?ga ?gz); (case ga => walk_at "sq")))
namespace SH
open PySem PySem.Spec PyProof.Rows L2 TL NumText
/-- bounds in the heap -/
def BdL (H : Hp) (b : Addr) (bs : List (Int × Int)) : Prop := ∃ vs, H b = some (.lst vs) ∧ Paired (fun v r => ∃ p, v = V.ref p ∧ H p = some (.tup [.int r.1, .int r.2])) vs bs
theorem BdL.off {H H' : Hp} {b : Addr} {bs : List (Int × Int)} (h : BdL H b bs) (o : Off [] H H') : BdL H' b bs := by
  obtain ⟨vs, h1, h2⟩ := h
  refine ⟨vs, o.at nin_nil h1, Paired.mapP h2 fun v r w => ?_⟩
  obtain ⟨p, e, h⟩ := w
  exact ⟨p, e, o.tups _ _ h⟩
theorem g_dget2 {σ : L2.St} {H : Hp} {Q : VK} {td ty tx : TE} (q : td σ H fun x H1 => ∃ a, x = .ref a ∧ IsD H1 a ∧ ty σ H1 fun y H2 => tx σ H2 fun z H3 => ∃ o, DGet H3 a y o ∧ Q (o.getD z) H3) : tDGet2 td ty tx σ H Q := q
def disp2 (p : Addr) (Q : VK) (ps : List (V × V)) (H2 : Hp) : Prop := H2 p = some (.dK []) ∧ ∃ kvs : List (Key × V), ps = kvs.map (fun kv => (kV kv.1, kv.2)) ∧ kvs.length ≤ 15 ∧ Q (.ref p) (upd H2 p (.dK (mergeK [] kvs)))
section
variable {σ : L2.St} {H : Hp} {Q : VK} {trs : List (TE × TE)} {tk tv : TE} {QP : List (V × V) → Hp → Prop}
theorem g_disp (q : ∀ p, H p = none → tPairs trs σ (upd H p (.dK [])) (disp2 p Q)) : tDisp trs σ H Q := q
theorem g_pnil (q : QP [] H) : tPairs [] σ H QP := q
theorem g_pcons (q : tk σ H fun x H1 => tv σ H1 fun y H2 => tPairs trs σ H2 fun ps H3 => QP ((x, y) :: ps) H3) : tPairs ((tk, tv) :: trs) σ H QP := q
theorem g_disp2 {p : Addr} {ps : List (V × V)} (kvs : List (Key × V)) (h : H p = some (.dK [])) (e : ps = kvs.map (fun kv => (kV kv.1, kv.2))) (hl : kvs.length ≤ 15) (em : mergeK [] kvs = kvs) (q : ∀ H', H' p = some (.dK kvs) → Off [p] H H' → Q (.ref p) H') : disp2 p Q ps H :=
  ⟨h, kvs, e, hl, q _ (by rw [em]; exact upd_same) (.put (by simp) h trivial)⟩
end
local macro_rules | `(tactic| walk_at "g2") => `(tactic| with_reducible first | refine SH.g_pnil ?_ | refine SH.g_pcons ?_ | (refine SH.g_disp ?_; intro _ _) | refine SH.g_dget2 ?_)
def spDueW (K : PySem.W.Frag) : Sp := fun vs H Q _ => ∃ z, vs = [.str z] ∧ PlT z 4000 ∧ ∀ H' p, Fz K H' (.ref p) (rdD z) → Off [] H H' → Q (.ref p) H'
section
variable {P : Program} {w : World} {K : PySem.W.Frag} {mg : Str → Option Value} {base : Heap}
theorem ok_law_course_due (T : Txt P w K mg) : DefOk P w K mg base "_law_course_due" 2 ["text"] (spDueW K) := by
  refine T.d_law_course_due.ok sc_law_course_due (fun _ _ _ _ _ _ us hl => match us, hl with | [_], _ => rfl) (fun vs H Q E h => ?_) (fun f cdv A outer s H vs Q E hr h => ?_)
  · obtain ⟨z, rfl, _⟩ := h
    rfl
  · obtain ⟨z, rfl, hz, q⟩ := h
    have hsz := sizeLine_eq
    have hzl := hz.len
    have hll := lines_len z
    have B := T.blt
    have hu := hu_of hr
    have G_law_number := ok_law_number (base := base) T
    refine ⟨_, (pss_cons (ps_set (i := 1) sc_law_course_due.nd rfl (by first | exact Or.inl rfl | exact Or.inr rfl) (pe_lst pa_nil))
  (pss_cons (ps_for (passes_of rfl) rfl (pi_range1 rfl B.b_range (pa_cons (pe_ifExp (pt_cmpR op_ne (pv 0) pe_str (nomark _)) (pe_callB (c_lenK (K := K) rfl) (by rfl) B.b_len PySem.boot_len (pa_cons (pe_splitS (pv 0) pe_str) pa_nil)) pe_int) pa_nil)) (pg_name (i := 2) sc_law_course_due.nd rfl (by first | exact Or.inl rfl | exact Or.inr rfl))
    (pss_cons (ps_set (i := 3) sc_law_course_due.nd rfl (by first | exact Or.inl rfl | exact Or.inr rfl) (pe_splitS (pe_ix (ix_listK (K := K) rfl) (pe_splitS (pv 0) pe_str) (pv 2) (fun _ _ => rfl)) pe_str))
  (pss_cons (ps_set (i := 4) sc_law_course_due.nd rfl (by first | exact Or.inl rfl | exact Or.inr rfl) (pe_disp (pps_cons pe_str (pe_lst pa_nil) (pps_cons pe_str (pe_lst (pa_cons (pe_tup (pa_cons pe_int (pa_cons pe_int pa_nil))) pa_nil)) (pps_cons pe_str (pe_lst (pa_cons (pe_tup (pa_cons pe_int (pa_cons pe_int pa_nil))) pa_nil)) (pps_cons pe_str (pe_lst (pa_cons (pe_tup (pa_cons pe_int (pa_cons pe_int pa_nil))) (pa_cons (pe_tup (pa_cons pe_int (pa_cons pe_int pa_nil))) pa_nil))) (pps_cons pe_str (pe_lst (pa_cons (pe_tup (pa_cons pe_int (pa_cons pe_int pa_nil))) (pa_cons (pe_tup (pa_cons pe_int (pa_cons pe_int pa_nil))) (pa_cons (pe_tup (pa_cons pe_int (pa_cons pe_int pa_nil))) pa_nil)))) pps_nil))))) (by rfl) (by rfl) (fun z => by cases z) (by decide)))
  (pss_cut (ps_set (i := 4) sc_law_course_due.nd rfl (by first | exact Or.inl rfl | exact Or.inr rfl) (pe_dget2 hu (pv 4) (pe_ix (ix_listK (K := K) rfl) (pv 3) pe_int (fun _ _ => rfl)) (pe_op op_rep (pe_lst (pa_cons (pe_tup (pa_cons pe_int (pa_cons pe_int pa_nil))) pa_nil)) pe_int) ⟨rfl, rfl, rfl, rfl⟩))
  (pss_cons (ps_set (i := 5) sc_law_course_due.nd rfl (by first | exact Or.inl rfl | exact Or.inr rfl) (pe_lc (own := [("word", 6)]) rfl sc_law_course_due.nd (pi_listK (K := K) rfl (pe_slice (sl_listK (K := K) rfl) (pv 3) (po_some pe_int) po_none)) (blkOk_by (own := [("word", 6)]) (N := ["text", "found", "at", "words", "bounds", "parts", "word", "one"]) (sc := defScope s_law_course_due) (by decide +kernel)) (fun _ _ _ _ _ => (pg_name (i := 6) sc_law_course_due.nd rfl (by first | exact Or.inl rfl | exact Or.inr rfl))) (fun _ _ _ _ _ => pts_nil) (fun _ _ _ _ _ => (pe_df G_law_number (hr.mono (by decide)) passN (pa_cons (pv 6) (pa_cons pe_int pa_nil))))))
  (pss_cons (ps_if (PW.pt (pw_or (pt_cmpR op_ne (pe_callB (c_lenK (K := K) rfl) (by rfl) B.b_len PySem.boot_len (pa_cons (pv 5) pa_nil)) (pe_callB (c_lenK (K := K) rfl) (by rfl) B.b_len PySem.boot_len (pa_cons (pv 4) pa_nil)) (nomark _)) (pw_or1 (pt_cmpR (op_neDK (K := K) rfl hr.units) (pe_lc (own := [("one", 7)]) rfl sc_law_course_due.nd (pi_range1 rfl B.b_range (pa_cons (pe_callB (c_lenK (K := K) rfl) (by rfl) B.b_len PySem.boot_len (pa_cons (pv 5) pa_nil)) pa_nil)) (blkOk_by (own := [("one", 7)]) (N := ["text", "found", "at", "words", "bounds", "parts", "word", "one"]) (sc := defScope s_law_course_due) (by decide +kernel)) (fun _ _ _ _ _ => (pg_name (i := 7) sc_law_course_due.nd rfl (by first | exact Or.inl rfl | exact Or.inr rfl))) (fun _ _ _ _ _ => (pts_one (pt_not (pt_chain op_le op_le (pe_ix (ix_tupK (K := K) rfl) (pe_ix (ix_listK (K := K) rfl) (pv 4) (pv 7) (fun _ _ => rfl)) pe_int (fun _ _ => rfl)) (pe_ix (ix_listK (K := K) rfl) (pv 5) (pv 7) (fun _ _ => rfl)) (pe_ix (ix_tupK (K := K) rfl) (pe_ix (ix_listK (K := K) rfl) (pv 4) (pv 7) (fun _ _ => rfl)) pe_int (fun _ _ => rfl)))))) (fun _ _ _ _ _ => (pv 7))) (pe_lst pa_nil) (nomark _)))))
    (pss_one (ps_ret (pe_tup (pa_cons pe_str (pa_cons (pe_op op_add (pv 2) pe_int) pa_nil)))))
    pss_nil)
  (pss_cons (ps_if (PW.pt (pw_and (pt_cmpR op_eq (pe_ix (ix_listK (K := K) rfl) (pv 3) pe_int (fun _ _ => rfl)) pe_str (nomark _)) (pw_and1 (pt_cmpR op_eq (pe_ix (ix_listK (K := K) rfl) (pv 5) pe_int (fun _ _ => rfl)) (pe_ix (ix_listK (K := K) rfl) (pv 5) pe_int (fun _ _ => rfl)) (nomark _)))))
    (pss_one (ps_ret (pe_tup (pa_cons pe_str (pa_cons (pe_op op_add (pv 2) pe_int) pa_nil)))))
    pss_nil)
  (pss_one (ps_expr (pe_bmK (K := K) rfl PySem.F.plainAttrs_list PySem.F.slot_list_append PySem.F.type_list_append mt_append (pv 1) (pa_cons (pe_op (op_catAK (K := K) rfl) (pe_tup (pa_cons (pe_ix (ix_listK (K := K) rfl) (pv 3) pe_int (fun _ _ => rfl)) pa_nil)) (pe_callTy (c_tupK (K := K) rfl) (by rfl) B.b_tuple (by decide +kernel) (pa_cons (pv 5) pa_nil))) pa_nil)))))))))))
  (pss_one (ps_ret (pe_tup (pa_cons pe_str (pa_cons (pe_callTy (c_tupK (K := K) rfl) (by rfl) B.b_tuple (by decide +kernel) (pa_cons (pv 1) pa_nil)) pa_nil))))))), ?_⟩
    walk_at "go"
    rename_i D hD
    by_cases hze : z = ""
    · refine br_NT hze ?_
      walk_at "go"
      refine forR_mk (fun i σ H' => σ = [some (.str z), some (.ref D), none, none, none, none, none, none] ∧ H' = upd H D (.lst [])) (by decide) ⟨rfl, rfl⟩ (fun i σ H' hi _ => absurd hi (by simp)) (fun σ H' hP => ?_)
      obtain ⟨rfl, rfl⟩ := hP
      walk_at "go"
      rename_i t ht r hr2
      have er : rdD z = .tuple [.str "read", .tuple []] := by
        unfold rdD linesS
        rw [if_pos hze]
        rfl
      refine q _ r ?_ (((Off.new hD).new2 ht).new2 hr2)
      rw [er]
      exact Fz.tup upd_same (.cons (Fz.str _) (.cons (Fz.tup (upd_new upd_same hr2) .nil) .nil))
    have hls : linesS z = Txt.split z "\n" := if_neg hze
    refine br_NF hze ?_
    walk_at "go"
    refine g_split nl_ok.2.2 (by omega) fun W0 hW0 => ?_
    walk_at "go"
    rw [← hls]
    have oH : Off [] H (upd (upd H D (.lst [])) W0 (.lst ((linesS z).map V.str))) := (Off.new hD).new2 hW0
    have eD : (upd (upd H D (.lst [])) W0 (.lst ((linesS z).map V.str))) D = some (.lst []) := upd_new upd_same hW0
    generalize upd (upd H D (.lst [])) W0 (.lst ((linesS z).map V.str)) = HB at *
    clear hW0
    have emp : ((linesS z).map V.str).length = (linesS z).length := List.length_map ..
    refine forR_mk (fun i σ H2 => ∃ a b c d rs, σ = [some (.str z), some (.ref D), a, b, c, d, none, none] ∧ H2 D = some (.lst rs) ∧ Paired (fun x l => ∃ q, x = V.ref q ∧ SqT K H2 q (stepL l)) rs ((linesS z).take i) ∧ (∀ j, j < i → ∀ l, (linesS z)[j]? = some l → okL l = true) ∧ Off [] H H2) (by omega)
      ⟨none, none, none, none, [], rfl, eD, .nil, fun j hj => by omega, oH⟩ (fun i σ H2 hi hP => ?_) (fun σ H2 hP => ?_)
    · obtain ⟨a, b, c, d, rs, rfl, r1, r2, r3, oo⟩ := hP
      have il : i < (linesS z).length := by omega
      obtain ⟨l, hl⟩ : ∃ l, (linesS z)[i]? = some l := ⟨_, List.getElem?_eq_getElem il⟩
      have pl := lines_ok hz l (List.mem_of_getElem? hl)
      obtain ⟨wk, wne⟩ := words_ok pl
      obtain ⟨w0, ws, ew⟩ : ∃ w0 ws, wordsS l = w0 :: ws := by
        cases h : wordsS l with
        | nil => exact absurd h wne
        | cons a r => exact ⟨a, r, rfl⟩
      have es : stepL l = .str w0 :: ws.map (iwV 9) := by unfold stepL; rw [ew]
      have eo : okL l = okDue w0 ws := by rw [due_ok]; unfold okL; rw [es]
      have hwl := words_len l
      have hpl := pl.len
      rw [ew, List.length_cons] at hwl
      have ebad : okL l = false → badAt (linesS z) = some i := fun ho => by
        rw [(badAt_drop (k := 0) r3).1, List.drop_eq_getElem_cons il]
        have e7 : (linesS z)[i]'il = l := (List.getElem?_eq_some_iff.mp hl).2
        rw [e7]
        show Option.map _ (if okL l = true then _ else some 0) = _
        rw [ho]
        simp
      have fin : okL l = false → ∀ H' r, Off [] H2 H' → H' r = some (.tup [.str "bad", .int ((i : Nat) + 1 : Int)]) → Q (.ref r) H' := fun ho H' r o e => by
        refine q H' r ?_ (oo.trans o)
        have er : rdD z = .tuple [.str "bad", .int ((i : Nat) + 1 : Int)] := by
          unfold rdD
          rw [ebad ho]
        rw [er]
        exact Fz.tup e (.cons (Fz.str _) (.cons (.int _) .nil))
      walk_at "go"
      refine g_split nl_ok.2.2 (by omega) fun W1 hW1 => ?_
      rw [← hls]
      walk_at "go"
      refine g_ixL (.of upd_same) (atI_consN (k := i) (by rw [List.getElem?_map, hl]; rfl)) ?_
      walk_at "go"
      refine g_split sp_ok.2.2 (by omega) fun W2 hW2 => ?_
      rw [show Txt.split l " " = w0 :: ws from ew] at *
      have fW : (upd (upd H2 W1 (.lst ((linesS z).map V.str))) W2 (.lst ((w0 :: ws).map V.str))) W2 = some (.lst ((w0 :: ws).map V.str)) := upd_same
      have oW : Off [] H2 (upd (upd H2 W1 (.lst ((linesS z).map V.str))) W2 (.lst ((w0 :: ws).map V.str))) := (Off.new hW1).new2 hW2
      walk_at "go"
      rename_i p hp l0 hl0 t1 ht1 l1 hl1 t2 ht2 l2 hl2 t3 ht3 t4 ht4 l3 hl3 t5 ht5 t6 ht6 t7 ht7 l4 hl4
      generalize upd (upd H2 W1 (.lst ((linesS z).map V.str))) W2 (.lst ((w0 :: ws).map V.str)) = H3 at *
      clear hW1 hW2
      refine g_disp2 [(.inr "tick", .ref l0), (.inr "tell", .ref l1), (.inr "hear", .ref l2), (.inr "land", .ref l3), (.inr "trade", .ref l4)] (upd_new (upd_new (upd_new (upd_new (upd_new (upd_new (upd_new (upd_new (upd_new (upd_new (upd_new (upd_new upd_same hl0) ht1) hl1) ht2) hl2) ht3) ht4) hl3) ht5) ht6) ht7) hl4) rfl (Nat.le_of_ble_eq_true rfl) (by kernel_rfl) fun H5 l5 m5 => ?_
      have fl0 : H5 l0 = some (.lst []) := m5.at (by simpa using (ne_of_none upd_same hl0).symm) (upd_new (upd_new (upd_new (upd_new (upd_new (upd_new (upd_new (upd_new (upd_new (upd_new (upd_new upd_same ht1) hl1) ht2) hl2) ht3) ht4) hl3) ht5) ht6) ht7) hl4)
      have ft1 : H5 t1 = some (.tup [.int 0, .int 4]) := m5.tups _ _ (upd_new (upd_new (upd_new (upd_new (upd_new (upd_new (upd_new (upd_new (upd_new (upd_new upd_same hl1) ht2) hl2) ht3) ht4) hl3) ht5) ht6) ht7) hl4)
      have fl1 : H5 l1 = some (.lst [.ref t1]) := m5.at (by simpa using (ne_of_none (upd_new (upd_new upd_same hl0) ht1) hl1).symm) (upd_new (upd_new (upd_new (upd_new (upd_new (upd_new (upd_new (upd_new (upd_new upd_same ht2) hl2) ht3) ht4) hl3) ht5) ht6) ht7) hl4)
      have ft2 : H5 t2 = some (.tup [.int 0, .int 4]) := m5.tups _ _ (upd_new (upd_new (upd_new (upd_new (upd_new (upd_new (upd_new (upd_new upd_same hl2) ht3) ht4) hl3) ht5) ht6) ht7) hl4)
      have fl2 : H5 l2 = some (.lst [.ref t2]) := m5.at (by simpa using (ne_of_none (upd_new (upd_new (upd_new (upd_new upd_same hl0) ht1) hl1) ht2) hl2).symm) (upd_new (upd_new (upd_new (upd_new (upd_new (upd_new (upd_new upd_same ht3) ht4) hl3) ht5) ht6) ht7) hl4)
      have ft3 : H5 t3 = some (.tup [.int 0, .int 4]) := m5.tups _ _ (upd_new (upd_new (upd_new (upd_new (upd_new (upd_new upd_same ht4) hl3) ht5) ht6) ht7) hl4)
      have ft4 : H5 t4 = some (.tup [.int 1, .int 20]) := m5.tups _ _ (upd_new (upd_new (upd_new (upd_new (upd_new upd_same hl3) ht5) ht6) ht7) hl4)
      have fl3 : H5 l3 = some (.lst [.ref t3, .ref t4]) := m5.at (by simpa using (ne_of_none (upd_new (upd_new (upd_new (upd_new (upd_new (upd_new (upd_new upd_same hl0) ht1) hl1) ht2) hl2) ht3) ht4) hl3).symm) (upd_new (upd_new (upd_new (upd_new upd_same ht5) ht6) ht7) hl4)
      have ft5 : H5 t5 = some (.tup [.int 0, .int 4]) := m5.tups _ _ (upd_new (upd_new (upd_new upd_same ht6) ht7) hl4)
      have ft6 : H5 t6 = some (.tup [.int 0, .int 4]) := m5.tups _ _ (upd_new (upd_new upd_same ht7) hl4)
      have ft7 : H5 t7 = some (.tup [.int 1, .int 500]) := m5.tups _ _ (upd_new upd_same hl4)
      have fl4 : H5 l4 = some (.lst [.ref t5, .ref t6, .ref t7]) := m5.at (by simpa using (ne_of_none (upd_new (upd_new (upd_new (upd_new (upd_new (upd_new (upd_new (upd_new (upd_new (upd_new (upd_new upd_same hl0) ht1) hl1) ht2) hl2) ht3) ht4) hl3) ht5) ht6) ht7) hl4).symm) upd_same
      have o35 : Off [] H3 H5 := (((((((((((((Off.new hp).new2 hl0).new2 ht1).new2 hl1).new2 ht2).new2 hl2).new2 ht3).new2 ht4).new2 hl3).new2 ht5).new2 ht6).new2 ht7).new2 hl4).mutA m5 hp
      have fW5 := o35.at nin_nil fW
      have o25 : Off [] H2 H5 := oW.trans o35
      clear m5 hl0 ht1 hl1 ht2 hl2 ht3 ht4 hl3 ht5 ht6 ht7 hl4 fW
      walk_at "go"
      refine g_cut (fun σ' H' => ∃ b, σ' = [some (.str z), some (.ref D), some (.int (i : Int)), some (.ref W2), some (.ref b), d, none, none] ∧ BdL H' b (bndW w0) ∧ Off [] H5 H') ?_ ?_
      · walk_at "go"
        refine ⟨p, rfl, .inl ⟨_, .inl l5⟩, ?_⟩
        walk_at "go"
        refine g_ixL (.of fW5) atI_cons0 ?_
        walk_at "go"
        rename_i y1 hy1 y2 hy2
        refine g_rep upd_same (by decide) (by decide) (Nat.le_of_ble_eq_true rfl) fun y3 hy3 => ?_
        have oY := ((Off.new (S := []) hy1 (o := .tup [.int 1, .int 0])).new2 hy2 (o := .lst [.ref y1])).new2 hy3 (o := .lst (List.replicate (Int.toNat 9) [V.ref y1]).flatten)
        have l5' := oY.at nin_nil l5
        have ft1' := oY.tups _ _ ft1
        have ft2' := oY.tups _ _ ft2
        have ft3' := oY.tups _ _ ft3
        have ft4' := oY.tups _ _ ft4
        have ft5' := oY.tups _ _ ft5
        have ft6' := oY.tups _ _ ft6
        have ft7' := oY.tups _ _ ft7
        have fl0' := oY.at nin_nil fl0
        have fl1' := oY.at nin_nil fl1
        have fl2' := oY.at nin_nil fl2
        have fl3' := oY.at nin_nil fl3
        have fl4' := oY.at nin_nil fl4
        by_cases c1 : w0 = "tick"
        · subst c1
          refine ⟨some (.ref l0), .inl ⟨_, .inr "tick", .inl l5', rfl, by kernel_rfl⟩, ?_⟩
          walk_at "go"
          exact ⟨l0, rfl, ⟨_, fl0', by
            rw [show bndW "tick" = [] by kernel_rfl]
            exact .nil⟩, oY⟩
        by_cases c2 : w0 = "tell"
        · subst c2
          refine ⟨some (.ref l1), .inl ⟨_, .inr "tell", .inl l5', rfl, by kernel_rfl⟩, ?_⟩
          walk_at "go"
          exact ⟨l1, rfl, ⟨_, fl1', by
            rw [show bndW "tell" = [(0, 4)] by kernel_rfl]
            exact .cons ⟨t1, rfl, ft1'⟩ .nil⟩, oY⟩
        by_cases c3 : w0 = "hear"
        · subst c3
          refine ⟨some (.ref l2), .inl ⟨_, .inr "hear", .inl l5', rfl, by kernel_rfl⟩, ?_⟩
          walk_at "go"
          exact ⟨l2, rfl, ⟨_, fl2', by
            rw [show bndW "hear" = [(0, 4)] by kernel_rfl]
            exact .cons ⟨t2, rfl, ft2'⟩ .nil⟩, oY⟩
        by_cases c4 : w0 = "land"
        · subst c4
          refine ⟨some (.ref l3), .inl ⟨_, .inr "land", .inl l5', rfl, by kernel_rfl⟩, ?_⟩
          walk_at "go"
          exact ⟨l3, rfl, ⟨_, fl3', by
            rw [show bndW "land" = [(0, 4), (1, 20)] by kernel_rfl]
            exact .cons ⟨t3, rfl, ft3'⟩ (.cons ⟨t4, rfl, ft4'⟩ .nil)⟩, oY⟩
        by_cases c5 : w0 = "trade"
        · subst c5
          refine ⟨some (.ref l4), .inl ⟨_, .inr "trade", .inl l5', rfl, by kernel_rfl⟩, ?_⟩
          walk_at "go"
          exact ⟨l4, rfl, ⟨_, fl4', by
            rw [show bndW "trade" = [(0, 4), (0, 4), (1, 500)] by kernel_rfl]
            exact .cons ⟨t5, rfl, ft5'⟩ (.cons ⟨t6, rfl, ft6'⟩ (.cons ⟨t7, rfl, ft7'⟩ .nil))⟩, oY⟩
        refine ⟨none, .inl ⟨_, .inr w0, .inl l5', rfl, ?_⟩, ?_⟩
        · have e : ∀ k : Str, ¬ w0 = k → decide ((Sum.inr k : Key) = Sum.inr w0) = false := fun k h => decide_eq_false fun e => h (Sum.inr.inj e).symm
          show none = Option.map _ (List.find? _ _)
          simp only [List.find?_cons, List.find?_nil, e "tick" c1, e "tell" c2, e "hear" c3, e "land" c4, e "trade" c5]
          rfl
        · walk_at "go"
          have eb : bndW w0 = List.replicate 9 (1, 0) := by unfold bndW; rw [if_neg c1, if_neg c2, if_neg c3, if_neg c4, if_neg c5]
          rw [eb]
          have ey : (upd (upd (upd H5 y1 (.tup [.int 1, .int 0])) y2 (.lst [.ref y1])) y3 (.lst (List.replicate (Int.toNat 9) [V.ref y1]).flatten)) y1 = some (.tup [.int 1, .int 0]) := upd_new (upd_new upd_same hy2) hy3
          exact ⟨y3, rfl, ⟨_, upd_same, .cons ⟨y1, rfl, ey⟩ (.cons ⟨y1, rfl, ey⟩ (.cons ⟨y1, rfl, ey⟩ (.cons ⟨y1, rfl, ey⟩ (.cons ⟨y1, rfl, ey⟩ (.cons ⟨y1, rfl, ey⟩ (.cons ⟨y1, rfl, ey⟩ (.cons ⟨y1, rfl, ey⟩ (.cons ⟨y1, rfl, ey⟩ .nil))))))))⟩, oY⟩
      · rintro σ' H6 ⟨b, rfl, hb, o6⟩
        have fW6 := o6.at nin_nil fW5
        have o26 := o25.trans o6
        clear l5 o35 o25 o6 fW5 fl0 ft1 fl1 ft2 fl2 ft3 ft4 fl3 ft5 ft6 ft7 fl4
        walk_at "go"
        rename_i W3 hW3
        rw [show cutV (List.map V.str (w0 :: ws)) (some 1) none = ws.map V.str from (cutV_drop (n := 1)).trans rfl] at *
        refine lcL_pure (fun x => match x with | .str w => .int (numZ w) | y => y) (fun _ => true) (.of upd_same) (by rw [List.length_map]; omega) (fun _ => rfl) ?_ ?_ ?_
        · intro x H3 hx o3 M kk
          walk_at "go"
          exact kk _ (.refl _ _)
        · intro x H3 hx hc1 o3 M kk
          obtain ⟨w1, hw1, rfl⟩ := List.mem_map.mp hx
          have pw := wk w1 (by rw [ew]; simp [hw1])
          walk_at "go"
          exact ⟨w1, 9, rfl, pw.mono (by decide), by omega, fun H4 o4 => kk _ o4⟩
        · intro D2 H7 hD2 o7 e7
          have ez : ((ws.map V.str).filter fun _ => true).map (fun x => match x with | .str w => .int (numZ w) | y => y) = ws.map fun w => V.int (numZ w) := by
            rw [List.filter_eq_self.mpr (fun _ _ => rfl), List.map_map]; rfl
          rw [ez] at e7
          have o67 : Off [] H6 H7 := (Off.new hW3).trans o7
          have hb7 := hb.off o67
          have fW7 := o67.at nin_nil fW6
          have o27 := o26.trans o67
          clear o7 hD2 hW3 hb fW6 o26 o67
          obtain ⟨bv, hb1, hb2⟩ := hb7
          have hbl := Paired.length hb2
          walk_at "go"
          by_cases cl : (((ws.map fun w => V.int (numZ w)).length : Nat) : Int) = ((bv.length : Nat) : Int)
          case neg =>
            have ho : okL l = false := by
              rw [eo]
              unfold okDue
              cases h : inPair (ws.map numZ) (bndW w0) with
              | false => rfl
              | true =>
                have := inPair_len h
                rw [List.length_map] at this cl
                omega
            refine br_NF cl ?_
            walk_at "go"
            rename_i r hr2
            exact fin ho _ r (o27.new2 hr2) upd_same
          case pos =>
          have cl' : ws.length = bv.length := by
            rw [List.length_map] at cl
            omega
          refine br_NT cl ?_
          walk_at "go"
          refine lcR_mk (by rw [List.length_map]; omega) (fun D3 i2 H8 => ∃ ns : List Int, H8 D3 = some (.lst (ns.map V.int)) ∧ Off [] H7 H8 ∧ ns.length ≤ i2 ∧ ns.isEmpty = inPair ((ws.map numZ).take i2) ((bndW w0).take i2)) (fun D3 hD3 => ⟨[], upd_same, .new hD3, Nat.le_refl _, rfl⟩) (fun D3 i2 H8 hD3 hi2 hP => ?_) (fun D3 H8 hD3 hP => ?_)
          · obtain ⟨ns1, n1, n2, n3, n4⟩ := hP
            have i2l : i2 < ws.length := by
              rw [List.length_map] at hi2
              omega
            have i2b : i2 < (bndW w0).length := by omega
            obtain ⟨vb, hvb⟩ : ∃ vb, bv[i2]? = some vb := ⟨_, List.getElem?_eq_getElem (by omega)⟩
            obtain ⟨bv2, hbv2, pb, rfl, hpb⟩ := paired_get hb2 hvb
            have hb8 := n2.at nin_nil hb1
            have hp8 := n2.tups _ _ hpb
            have e8 := n2.at nin_nil e7
            have hpi : (ws.map fun w => V.int (numZ w))[i2]? = some (.int (numZ (ws[i2]'i2l))) := by rw [List.getElem?_map, List.getElem?_eq_getElem i2l]; rfl
            have hz2 : (ws.map numZ)[i2]? = some (numZ (ws[i2]'i2l)) := by rw [List.getElem?_map, List.getElem?_eq_getElem i2l]; rfl
            have tk := inPair_take hz2 hbv2
            generalize numZ (ws[i2]'i2l) = pv at *
            walk_at "go"
            refine ⟨rfl, ?_⟩
            walk_at "go"
            refine g_ixL (.of hb8) (atI_consN (k := i2) hvb) ?_
            walk_at "go"
            refine g_ixL (.of e8) (atI_consN (k := i2) hpi) ?_
            walk_at "go"
            have bad : (decide (bv2.1 ≤ pv) && decide (pv ≤ bv2.2)) = false → ∃ ns : List Int, (upd H8 D3 (.lst (ns1.map V.int ++ [V.int (i2 : Int)]))) D3 = some (.lst (ns.map V.int)) ∧ Off [] H7 (upd H8 D3 (.lst (ns1.map V.int ++ [V.int (i2 : Int)]))) ∧ ns.length ≤ i2 + 1 ∧ ns.isEmpty = inPair ((ws.map numZ).take (i2 + 1)) ((bndW w0).take (i2 + 1)) := fun hf =>
              ⟨ns1 ++ [(i2 : Int)], by rw [upd_same, List.map_append]; rfl, n2.mut hD3, by rw [List.length_append, List.length_singleton]; omega, by rw [tk, hf, Bool.and_false]; cases ns1 <;> rfl⟩
            refine br_d (fun d1 => ?_) (fun d1 => ?_)
            · walk_at "go"
              refine g_ixL (.of hb8) (atI_consN (k := i2) hvb) ?_
              walk_at "go"
              by_cases d2 : pv ≤ bv2.2
              · refine br_NT d2 ?_
                exact ⟨ns1, n1, n2, by omega, by rw [tk, decide_eq_true d1, decide_eq_true d2, Bool.and_true, Bool.and_true]; exact n4⟩
              · refine br_NF d2 ?_
                walk_at "go"
                exact g_app n1 (by rw [List.length_map]; omega) (bad (by rw [decide_eq_false d2, Bool.and_false]))
            · walk_at "go"
              exact g_app n1 (by rw [List.length_map]; omega) (bad (by rw [decide_eq_false d1, Bool.false_and]))
          · obtain ⟨ns, n1, n2, n3, n4⟩ := hP
            have en2 : ((((ws.map fun w => V.int (numZ w)).length : Nat) : Int)).toNat = ws.length := by rw [List.length_map]; simp
            rw [en2] at n3 n4
            rw [List.take_of_length_le (by rw [List.length_map]; exact Nat.le_refl _), List.take_of_length_le (by omega)] at n4
            have fW8 := n2.at nin_nil fW7
            have e8 := n2.at nin_nil e7
            have o28 := o27.trans n2
            clear hb1 hb2 e7 fW7 o27
            walk_at "go"
            rename_i e0 he0
            refine g_neD (.lst (.of (upd_new n1 he0)) (ints_dpAll ns)) (.lst (.of upd_same) .nil) (ints_shaped ns) rfl ?_
            rw [eqv_empty, List.isEmpty_map, n4]
            have fW9 := upd_new (o := .lst []) fW8 he0
            have e9 := upd_new (o := .lst []) e8 he0
            have o29 := o28.new2 (o := .lst []) he0
            generalize upd H8 e0 (.lst []) = H9 at *
            clear fW8 e8 o28 n1 n2 he0
            cases hin : inPair (ws.map numZ) (bndW w0) with
            | false =>
              have ho : okL l = false := by
                rw [eo]
                unfold okDue
                rw [hin, Bool.false_and]
              walk_at "go"
              rename_i r hr2
              exact fin ho _ r (o29.new2 hr2) upd_same
            | true =>
              walk_at "go"
              refine g_ixL (.of fW9) atI_cons0 ?_
              walk_at "go"
              have app : okL l = true → ∀ M : L2.St → Hp → Prop, True := fun _ _ => trivial
              have okd : ∀ b2 : Bool, (decide (w0 = "trade") && decide ((ws.map numZ)[0]? = (ws.map numZ)[1]?)) = b2 → okL l = !b2 := fun b2 h => by
                rw [eo]
                unfold okDue
                rw [hin, h, Bool.true_and]
              refine br_d (fun d1 => ?_) (fun d1 => ?_)
              · have l3 := inPair_len hin
                rw [d1, List.length_map, show (bndW "trade").length = 3 by kernel_rfl] at l3
                obtain ⟨x1, x2, x3, ex⟩ : ∃ x1 x2 x3, ws = [x1, x2, x3] := by
                  match ws, l3 with
                  | [x1, x2, x3], _ => exact ⟨x1, x2, x3, rfl⟩
                walk_at "go"
                refine g_ixL (v := .int (numZ x1)) (.of e9) (by rw [ex]; rfl) ?_
                walk_at "go"
                refine g_ixL (v := .int (numZ x2)) (.of e9) (by rw [ex]; rfl) ?_
                walk_at "go"
                have e01 : decide ((ws.map numZ)[0]? = (ws.map numZ)[1]?) = decide (numZ x1 = numZ x2) := by
                  rw [ex]
                  apply decide_eq_decide.mpr
                  exact ⟨fun h => Option.some.inj h, fun h => congrArg some h⟩
                refine br_d (fun d2 => ?_) (fun d2 => ?_)
                · have ho := okd true (by rw [e01, decide_eq_true d1, decide_eq_true d2]; rfl)
                  walk_at "go"
                  rename_i r hr2
                  exact fin ho _ r (o29.new2 hr2) upd_same
                · have ho := okd false (by rw [e01, decide_eq_false d2, Bool.and_false])
                  have hdue : okDue w0 ws = true := by rw [← eo]; exact ho
                  walk_at "go"
                  refine g_ixL (.of fW9) atI_cons0 ?_
                  walk_at "go"
                  rename_i q1 hq1 q2 hq2
                  refine g_catA (.of (upd_new upd_same hq2)) (.of upd_same) (by rw [List.length_map]; simp; omega) fun pr HA spr oA => ?_
                  have oB : Off [] H9 HA := ((Off.new hq1).new2 hq2).trans oA
                  have spr' : SqT K HA pr (stepL l) := by
                    rw [es, due_vals hdue]
                    exact spr
                  have r1' := (o29.trans oB).at nin_nil r1
                  have hlr : rs.length = min i (linesS z).length := by
                    have := Paired.length r2
                    rw [List.length_take] at this
                    exact this
                  walk_at "go"
                  refine g_app' r1' (by omega) fun HC eC oC => ?_
                  walk_at "go"
                  have oX : Off [D] H2 HC := ((o29.trans oB).mono (by simp)).trans oC
                  refine ⟨_, _, _, _, rs ++ [.ref pr], rfl, eC, ?_, fun j hj l' hl' => ?_, (oo.trans (o29.trans oB)).mutA oC hD⟩
                  · rw [List.take_add_one, hl]
                    refine paired_snoc (Paired.mapP r2 fun x l w => w.elim fun q w => ⟨q, w.1, oX.seqT w.2⟩) ⟨pr, rfl, oC.seqT spr'⟩
                  · by_cases h : j < i
                    · exact r3 j h l' hl'
                    · have : j = i := by omega
                      subst this
                      rw [hl] at hl'
                      cases hl'
                      exact ho
              · have ho := okd false (by rw [decide_eq_false d1, Bool.false_and])
                have hdue : okDue w0 ws = true := by rw [← eo]; exact ho
                walk_at "go"
                refine g_ixL (.of fW9) atI_cons0 ?_
                walk_at "go"
                rename_i q1 hq1 q2 hq2
                refine g_catA (.of (upd_new upd_same hq2)) (.of upd_same) (by rw [List.length_map]; simp; omega) fun pr HA spr oA => ?_
                have oB : Off [] H9 HA := ((Off.new hq1).new2 hq2).trans oA
                have spr' : SqT K HA pr (stepL l) := by
                  rw [es, due_vals hdue]
                  exact spr
                have r1' := (o29.trans oB).at nin_nil r1
                have hlr : rs.length = min i (linesS z).length := by
                  have := Paired.length r2
                  rw [List.length_take] at this
                  exact this
                walk_at "go"
                refine g_app' r1' (by omega) fun HC eC oC => ?_
                walk_at "go"
                have oX : Off [D] H2 HC := ((o29.trans oB).mono (by simp)).trans oC
                refine ⟨_, _, _, _, rs ++ [.ref pr], rfl, eC, ?_, fun j hj l' hl' => ?_, (oo.trans (o29.trans oB)).mutA oC hD⟩
                · rw [List.take_add_one, hl]
                  refine paired_snoc (Paired.mapP r2 fun x l w => w.elim fun q w => ⟨q, w.1, oX.seqT w.2⟩) ⟨pr, rfl, oC.seqT spr'⟩
                · by_cases h : j < i
                  · exact r3 j h l' hl'
                  · have : j = i := by omega
                    subst this
                    rw [hl] at hl'
                    cases hl'
                    exact ho
    · obtain ⟨a, b, c, d, rs, rfl, r1, r2, r3, oo⟩ := hP
      have en : (((((linesS z).map V.str).length : Nat) : Int)).toNat = (linesS z).length := by rw [emp]; simp
      rw [en] at r2 r3
      rw [List.take_length] at r2
      walk_at "go"
      rename_i t ht r hr2
      have eb : badAt (linesS z) = none := by
        rw [(badAt_drop (k := 0) r3).1, List.drop_length]
        rfl
      have er : rdD z = .tuple [.str "read", .tuple ((linesS z).map stepD)] := by
        unfold rdD
        rw [eb]
      refine q _ r ?_ ((oo.new2 ht).new2 hr2)
      rw [er]
      have o2 : Off [] H2 (upd (upd H2 t (.tup rs)) r (.tup [.str "read", .ref t])) := (Off.new ht).new2 hr2
      exact Fz.tup upd_same (.cons (Fz.str _) (.cons (Fz.tup (upd_new upd_same hr2) (steps_fz (Paired.mapP r2 fun x l w => w.elim fun q w => ⟨q, w.1, o2.seqT w.2⟩) fun l hl => step_flat (lines_ok hz l hl))) .nil))
end
end SH
end

section
/-! #### the walk's words -/
local macro_rules | `(tactic| walk_at "ne0") => `(tactic| first
  | assumption
  | (refine Ne.symm ?_; assumption))
local macro_rules | `(tactic| walk_at "ne") => `(tactic| first
  | assumption
  | (refine Ne.symm ?_; assumption)
  | (refine' L2.ne_of_none ?gx (by assumption); (case gx => walk_at "hp"))
  | (refine' Ne.symm (L2.ne_of_none ?gx (by assumption)); (case gx => walk_at "hp")))
local macro_rules | `(tactic| walk_at "hp") => `(tactic| first
  | assumption
  | exact L2.upd_same
  | (refine' SH.upd_new ?gh (by assumption); (case gh => walk_at "hp"))
  | (refine' (L2.upd_ne ?gn).trans ?gh; (case gn => walk_at "ne0"); (case gh => walk_at "hp"))
  | (refine' SH.Off.at (by assumption) ?gn ?gh; (case gn => walk_at "nin"); (case gh => walk_at "hp")))
local macro_rules | `(tactic| walk_at "nin") => `(tactic| first
  | exact SH.nin_nil
  | (refine SH.nin_cons ?_ ?_; (· walk_at "ne0"); (· walk_at "nin")))
local macro_rules | `(tactic| walk_at "sq") => `(tactic| first
  | assumption
  | (apply L2.SqL.of; (· walk_at "hp"))
  | (apply L2.SqT.of; (· walk_at "hp"))
  | (refine' SH.seqT_new ?gx (by assumption); (case gx => walk_at "sq"))
  | (refine' SH.seqL_new ?gx (by assumption); (case gx => walk_at "sq"))
  | (refine' SH.Off.seqT (by assumption) ?gx; (case gx => walk_at "sq"))
  | (refine' SH.Off.seqL (by assumption) ?gy ?gx; (case gx => walk_at "sq"); (case gy => walk_at "nin")))
local macro_rules | `(tactic| walk_at "kd") => `(tactic| first
  | assumption | exact SH.KdV.int _ | exact SH.KdV.bl _ | exact SH.KdV.str _ | exact SH.KdV.non
  | (apply SH.KdV.tup; (· walk_at "sq")) | (apply SH.KdV.lst; (· walk_at "sq")))
/-- a way that cannot be -/
local macro_rules | `(tactic| walk_at "no") => `(tactic| (exfalso; first | assumption | omega | contradiction | (simp_all; done)))
/-- one step -/
local macro_rules | `(tactic| walk_at "g1") => `(tactic| with_reducible first
  | refine SH.g_var (by with_unfolding_all rfl) ?_ | refine SH.g_c ?_ | refine SH.g_op ?_ | refine SH.g_un ?_ | refine SH.g_I0 ?_ | refine SH.g_U ?_
  | refine SH.g_eqI ?_ | refine SH.g_neI ?_ | refine SH.g_eqS ?_ | refine SH.g_neS ?_
  | refine SH.g_test ?_ | refine SH.g_B ?_ | refine SH.g_isB ?_ | refine SH.g_and ?_ | refine SH.g_or ?_ | refine SH.g_not ?_ | refine SH.g_andV ?_ | refine SH.g_orV ?_ | refine SH.g_notV ?_ | refine SH.g_ifE ?_ | refine SH.g_chain ?_
  | refine SH.g_nil ?_ | refine SH.g_cons ?_ | refine SH.g_tup ?_ | refine SH.g_lst ?_ | refine SH.g_call ?_ | refine SH.g_fld ?_ | refine SH.g_meth ?_ | refine SH.g_make ?_ | refine SH.g_cb ?_ | refine SH.g_bm ?_
  | refine SH.g_seq ?_ | refine SH.g_asg ?_ | refine SH.g_name ?_ | refine SH.g_drop ?_ | refine SH.g_ret ?_ | refine SH.g_retN ?_ | refine SH.g_next ?_ | refine SH.g_brk ?_ | refine SH.g_cnt ?_ | refine SH.g_ifs ?_ | refine SH.g_par ?_ | refine SH.g_par2 ?_ | refine SH.g_fldS ?_ | refine SH.g_raise ?_ | refine SH.g_rs ?_
  | refine SH.g_sub ?_ | refine SH.g_yes ?_ | refine SH.g_sl ?_ | refine SH.g_noPart ?_ | refine SH.g_part ?_ | refine SH.g_intO ?_ | refine SH.g_dget ?_ | refine SH.g_dput ?_ | refine SH.g_forR ?_ | refine SH.g_forL ?_ | refine SH.g_forT ?_ | refine SH.g_lcR ?_ | refine SH.g_lcL ?_ | refine SH.g_lcT ?_ | refine SH.g_gcons ?_ | refine SH.g_gnil ?_
  | refine SH.br_t ?_ | refine SH.br_f ?_
  | refine SH.g_int ?_ | refine SH.g_abs ?_ | refine SH.g_max2 ?_ | refine SH.g_min2 ?_)
local macro_rules | `(tactic| walk_at "g2") => `(tactic| first
  | walk_at "g1"
  | ((with_reducible refine' SH.g_isiInt ?ga ?gz); (case ga => walk_at "kd"))
  | ((with_reducible refine' SH.g_isiBool ?ga ?gz); (case ga => walk_at "kd"))
  | ((with_reducible refine' SH.g_isiStr ?ga ?gz); (case ga => walk_at "kd"))
  | ((with_reducible refine' SH.g_isiTup ?ga ?gz); (case ga => walk_at "kd"))
  | ((with_reducible refine' SH.g_ixT ?ga ?gb ?gz); (case ga => walk_at "sq"); (case gb => rfl))
  | ((with_reducible refine' SH.g_ixL ?ga ?gb ?gz); (case ga => walk_at "sq"); (case gb => first | rfl | (apply SH.atI_refs; assumption)))
  | ((with_reducible refine SH.br_F ?_ ?_); (· decide +kernel)) | ((with_reducible refine SH.br_T ?_ ?_); (· decide +kernel)) | ((with_reducible refine SH.br_NF ?_ ?_); (· decide +kernel)) | ((with_reducible refine SH.br_NT ?_ ?_); (· decide +kernel))
  | ((with_reducible refine' SH.g_gtup ?ga ?gb ?gz); (case ga => walk_at "sq"); (case gb => rfl))
  | ((with_reducible refine' SH.g_lenT ?ga ?gz); (case ga => walk_at "sq"))
  | ((with_reducible refine' SH.g_lenL ?ga ?gz); (case ga => walk_at "sq"))
  | ((with_reducible refine SH.g_mkT (SH.sz rfl) ?_); intro _ _)
  | ((with_reducible refine SH.g_mkL (SH.sz rfl) ?_); intro _ _)
  | ((with_reducible refine SH.g_dnew ?_); intro _ _)
  | ((with_reducible refine' SH.g_tupL ?ga ?gz); (case ga => walk_at "sq"); intro _ _)
  | ((with_reducible refine' SH.g_lstL ?ga ?gz); (case ga => walk_at "sq"); intro _ _)
  | ((with_reducible refine' SH.g_lstT ?ga ?gz); (case ga => walk_at "sq"); intro _ _)
  | ((with_reducible refine' SH.g_dgR ?ga ?gb ?gz); (case ga => walk_at "hp"); (case gb => walk_at "dv"))
  | ((with_reducible refine' SH.g_fldR ?ga ?gb ?gc ?gd ?gz); (case ga => walk_at "hp"); (case gb => walk_at "cl"); (case gc => walk_at "na"); (case gd => walk_at "fv"))
  | ((with_reducible refine' SH.g_insR ?ga ?gb ?gz); (case ga => walk_at "hp"); (case gb => walk_at "fn"))
  | ((with_reducible refine' SH.g_setL ?ga ?gb ?gz); (case ga => walk_at "hp"); (case gb => rfl))
  | ((with_reducible refine SH.g_I ?_ ?_); (· walk_at "ci"))
  | ((with_reducible refine' SH.g_slL ?ga ?gz); (case ga => walk_at "sq"); intro _ _)
  | ((with_reducible refine' SH.g_cat ?ga ?gb ?gc ?gz); (case ga => walk_at "hp"); (case gb => walk_at "hp"); (case gc => walk_at "ls"); intro _ _))
/-- the side conditions of numbers: a divisor, a factor -/
local macro_rules | `(tactic| walk_at "ci") => `(tactic| first
  | (show _ ≠ _; omega) | (show _ < _; omega) | (constructor <;> omega) | (refine Or.inr ⟨?_, ?_⟩ <;> (show _ < _; omega)) | (refine Or.inl ⟨?_, ?_⟩ <;> (show _ < _; omega)) | (refine ⟨?_, ?_, ?_⟩ <;> decide))
local macro_rules | `(tactic| walk_at "ls") => `(tactic| first | (show _ ≤ _; exact Nat.le_trans (by assumption) (by decide)) | (show _ ≤ _; exact Nat.le_trans (by simp; omega) (by decide : 1000 ≤ sizeLine)))
local macro_rules | `(tactic| walk_at "dv") => `(tactic| rfl)
local macro_rules | `(tactic| walk_at "fv") => `(tactic| rfl)
local macro_rules | `(tactic| walk_at "fn") => `(tactic| rfl)
local macro_rules | `(tactic| walk_at "cl") => `(tactic| assumption)
local macro_rules | `(tactic| walk_at "na") => `(tactic| assumption)
local macro_rules | `(tactic| walk_at "go") => `(tactic| repeat walk_at "g2")
/-- a way is split -/
local macro_rules | `(tactic| walk_at "br") => `(tactic| with_reducible first
  | refine SH.br_d (fun _ => ?_) (fun _ => ?_) | refine SH.br_nd (fun _ => ?_) (fun _ => ?_) | refine SH.br_b (fun _ => ?_) (fun _ => ?_))
/-- all ways -/
local macro_rules | `(tactic| walk_at "all") => `(tactic| repeat' first | walk_at "g2" | (walk_at "br" <;> try (walk_at "no")))
/-- a truth value is the other -/
local macro_rules | `(tactic| walk_at "bq") => `(tactic| first | rfl | (simp_all; done) | (simp_all; omega) | (simp only [decide_eq_true_eq, decide_eq_false_iff_not, Bool.and_eq_true, Bool.or_eq_true] at *; omega))
/-- what was tracked is as it was -/
local macro_rules | `(tactic| walk_at "of") => `(tactic| first
  | assumption
  | exact SH.Off.refl _ _
  | (refine' SH.Off.new2 ?gx (by assumption); (case gx => walk_at "of"))
  | (refine' SH.Off.mut ?gx (by assumption); (case gx => walk_at "of"))
  | (refine' SH.Off.trans' ?gx (by assumption) ?gy; (case gy => (intro _ h; (first | exact h | (simp at h; done) | (simp at h ⊢; simp [h]; done)))); (case gx => walk_at "of")))
namespace SH
open PySem PySem.Spec PyProof.Rows L2 TL NumText
/-! ### what is read, as data that can be shown -/
theorem inB_true {lo hi : Int} {v : V} (h : inB lo hi v = true) : ∃ i : Int, v = .int i ∧ lo ≤ i ∧ i ≤ hi := by
  unfold inB at h
  split at h
  · rename_i i
    simp only [Bool.and_eq_true, decide_eq_true_eq] at h
    exact ⟨i, rfl, h.1, h.2⟩
  · cases h
theorem ok_vld {ys : List V} (h : stepB ys 5 = true) : Vld ys := by
  unfold stepB at h
  split at h
  · rename_i w rest
    split at h
    · rename_i e
      subst e
      have : rest = [] := List.length_eq_zero_iff.mp (of_decide_eq_true h)
      subst this
      exact .inl rfl
    · split at h
      · cases h
      · rename_i b rest2
        rw [Bool.and_eq_true] at h
        obtain ⟨hb, h⟩ := h
        obtain ⟨b, rfl, hb1, hb2⟩ := inB_true hb
        split at h
        · rename_i e
          have : rest2 = [] := List.length_eq_zero_iff.mp (of_decide_eq_true h)
          subst this
          refine .inr (.inl ⟨b, ⟨hb1, by omega⟩, ?_⟩)
          rcases e with rfl | rfl
          · exact .inl rfl
          · exact .inr rfl
        · split at h
          · rename_i e
            subst e
            split at h
            · rename_i k
              obtain ⟨k, rfl, k1, k2⟩ := inB_true h
              exact .inr (.inr (.inl ⟨b, k, ⟨hb1, by omega⟩, ⟨k1, k2⟩, rfl⟩))
            · cases h
          · split at h
            · rename_i e
              subst e
              split at h
              · rename_i t k
                simp only [Bool.and_eq_true] at h
                obtain ⟨⟨ht, hn⟩, hk⟩ := h
                obtain ⟨t, rfl, t1, t2⟩ := inB_true ht
                obtain ⟨k, rfl, k1, k2⟩ := inB_true hk
                refine .inr (.inr (.inr ⟨b, t, k, ⟨hb1, by omega⟩, ⟨t1, by omega⟩, ?_, ⟨k1, k2⟩, rfl⟩))
                rintro rfl
                simp at hn
              · cases h
            · cases h
  · cases h
/-- data small enough to be shown, with integers of 18 figures -/
structure Sw (d : PyData) (n k : Nat) : Prop where
  lay : PyData.canLay0 d = true
  sht : PyData.intsShort 24 d = true
  shw : PyData.showable d = true
  wgt : PyData.weight d ≤ n
  dep : PyData.depth d ≤ k
structure SwL (ds : List PyData) (n k : Nat) : Prop where
  lay : PyData.canLayAll0 ds = true
  sht : PyData.intsShortAll 24 ds = true
  shw : PyData.showableAll ds = true
  wgt : PyData.weightAll ds ≤ n
  dep : PyData.depthAll ds ≤ k
theorem Sw.mono {d : PyData} {n m k j : Nat} (h : Sw d n k) (a : n ≤ m) (b : k ≤ j) : Sw d m j := ⟨h.lay, h.sht, h.shw, Nat.le_trans h.wgt a, Nat.le_trans h.dep b⟩
theorem SwL.mono {d : List PyData} {n m k j : Nat} (h : SwL d n k) (a : n ≤ m) (b : k ≤ j) : SwL d m j := ⟨h.lay, h.sht, h.shw, Nat.le_trans h.wgt a, Nat.le_trans h.dep b⟩
theorem SwL.nil {k : Nat} : SwL [] 0 k := ⟨rfl, rfl, rfl, Nat.le_refl _, Nat.zero_le _⟩
theorem SwL.cons {d : PyData} {ds : List PyData} {n m k : Nat} (h : Sw d n k) (t : SwL ds m k) : SwL (d :: ds) (n + 1 + m) k where
  lay := by
    show (PyData.canLay0 d && PyData.canLayAll0 ds) = true
    rw [h.lay, t.lay]; rfl
  sht := by
    show (PyData.intsShort 24 d && PyData.intsShortAll 24 ds) = true
    rw [h.sht, t.sht]; rfl
  shw := by
    show (PyData.showable d && PyData.showableAll ds) = true
    rw [h.shw, t.shw]; rfl
  wgt := by
    show PyData.weight d + 1 + PyData.weightAll ds ≤ _
    have := h.wgt; have := t.wgt; omega
  dep := by
    show max (PyData.depth d) (PyData.depthAll ds) ≤ k
    have := h.dep; have := t.dep; omega
theorem SwL.tup {ds : List PyData} {n k : Nat} (h : SwL ds n k) : Sw (.tuple ds) n (k + 1) := ⟨h.lay, h.sht, h.shw, h.wgt, by show PyData.depthAll ds + 1 ≤ _; have := h.dep; omega⟩
theorem SwL.all {ds : List PyData} {n k : Nat} (h : ∀ d ∈ ds, Sw d n k) : SwL ds ((n + 1) * ds.length) k := by
  induction ds with
  | nil => exact SwL.nil
  | cons d ds ih => exact (SwL.cons (h d List.mem_cons_self) (ih fun x hx => h x (List.mem_cons_of_mem _ hx))).mono (by rw [List.length_cons, Nat.mul_add]; omega) (Nat.le_refl _)
theorem Sw.int {i : Int} {k : Nat} (h : i.natAbs < 10 ^ 18) : Sw (.int i) 60 k where
  lay := rfl
  sht := by
    show decide (_ ≤ 24) = true
    refine decide_eq_true ?_
    exact str_short (Nat.le_trans (int_text_length_le10 (k := 18) (by decide) h) (by decide))
  shw := by
    show decide (i.natAbs.log2 < 1920) = true
    refine decide_eq_true ?_
    by_cases h0 : i.natAbs = 0
    · rw [h0]; decide
    · have : i.natAbs.log2 < 60 := (Nat.log2_lt h0).mpr (Nat.lt_trans h (by decide +kernel))
      omega
  wgt := by
    show (if i == 0 then 0 else i.natAbs.log2 + 1) ≤ 60
    split
    · omega
    · rename_i h0
      have h1 : i ≠ 0 := by simpa using h0
      have : i.natAbs.log2 < 60 := (Nat.log2_lt (by omega)).mpr (Nat.lt_trans h (by decide +kernel))
      omega
  dep := Nat.zero_le _
theorem Sw.str {z : Str} {n k : Nat} (h : PyData.canLay0 (.str z) = true) (l : z.cps.size ≤ n) : Sw (.str z) n k := ⟨h, rfl, rfl, l, Nat.zero_le _⟩
theorem small18 {i : Int} (h0 : -1000000 ≤ i) (h1 : i ≤ 1000000) : i.natAbs < 10 ^ 18 := by
  have : (10 : Nat) ^ 18 = 1000000000000000000 := by decide +kernel
  omega
theorem vld_sw {ys : List V} (h : Vld ys) : Sw (.tuple (ys.map dat2)) 200 1 := by
  rcases h with rfl | ⟨b, hb, rfl | rfl⟩ | ⟨b, n, hb, hn, rfl⟩ | ⟨b, t, n, hb, ht, hbt, hn, rfl⟩
  · exact ((SwL.cons (Sw.str (n := 5) (by kernel_rfl) (by decide)) (SwL.nil (k := 0))).tup).mono (by decide) (by decide)
  · exact ((SwL.cons (Sw.str (n := 60) (by kernel_rfl) (by decide)) (.cons (.int (small18 (by omega) (by omega))) (SwL.nil (k := 0)))).tup).mono (by decide) (by decide)
  · exact ((SwL.cons (Sw.str (n := 60) (by kernel_rfl) (by decide)) (.cons (.int (small18 (by omega) (by omega))) (SwL.nil (k := 0)))).tup).mono (by decide) (by decide)
  · exact ((SwL.cons (Sw.str (n := 60) (by kernel_rfl) (by decide)) (.cons (.int (small18 (by omega) (by omega))) (.cons (.int (small18 (by omega) (by omega))) (SwL.nil (k := 0))))).tup).mono (by decide) (by decide)
  · exact ((SwL.cons (Sw.str (n := 5) (by kernel_rfl) (by decide)) (.cons (.int (small18 (by omega) (by omega))) (.cons (.int (small18 (by omega) (by omega))) (.cons (.int (small18 (by omega) (by omega))) (SwL.nil (k := 0)))))).tup).mono (by decide) (by decide)
theorem badAt_none : ∀ {ls : List Str}, badAt ls = none → ∀ l ∈ ls, okL l = true
  | [], _, l, h => by cases h
  | x :: xs, h, l, hl => by
    have h' : (if okL x = true then (badAt xs).map (· + 1) else some 0) = none := h
    split at h'
    · rename_i hx
      rcases List.mem_cons.mp hl with rfl | hl
      · exact hx
      · refine badAt_none (ls := xs) ?_ l hl
        cases e : badAt xs with
        | none => rfl
        | some k => rw [e] at h'; cases h'
    · cases h'
theorem badAt_lt : ∀ {ls : List Str} {k : Nat}, badAt ls = some k → k < ls.length
  | [], k, h => by cases h
  | x :: xs, k, h => by
    have h' : (if okL x = true then (badAt xs).map (· + 1) else some 0) = some k := h
    split at h'
    · cases e : badAt xs with
      | none => rw [e] at h'; cases h'
      | some j =>
        rw [e] at h'
        have := badAt_lt e
        have : j + 1 = k := by simpa using h'
        rw [List.length_cons]
        omega
    · cases h'
      simp
theorem lines_many {z : Str} {n : Nat} (h : PlT z n) : (linesS z).length ≤ n + 1 := by
  unfold linesS
  split
  · simp
  · have := (PtL.lines h).1.len
    rwa [List.length_map] at this
theorem rd_sw {z : Str} (h : PlT z 1000) : Sw (rdD z) 400000 4 := by
  have hl := lines_many h
  unfold rdD
  split
  · rename_i e
    have ha : SwL ((linesS z).map stepD) (201 * (linesS z).length) 1 := by
      have := SwL.all (ds := (linesS z).map stepD) (n := 200) (k := 1) fun d hd => by
        obtain ⟨l, hl, rfl⟩ := List.mem_map.mp hd
        exact vld_sw (ok_vld (badAt_none e l hl))
      rwa [List.length_map] at this
    exact ((SwL.cons (Sw.str (n := 5) (by kernel_rfl) (by decide)) (.cons ha.tup SwL.nil)).tup).mono (by omega) (by decide)
  · rename_i k e
    have := badAt_lt e
    exact ((SwL.cons (Sw.str (n := 5) (by kernel_rfl) (by decide)) (.cons (.int (small18 (by omega) (by omega))) (SwL.nil (k := 0)))).tup).mono (by decide) (by decide)
theorem fd_sw {z : Str} (h : PlT z 4000) : Sw (fdD z) 400000 4 := by
  have hb : ∀ p q, dueF z = some (p, q) → p.natAbs < 10 ^ 18 ∧ q.natAbs < 10 ^ 18 := fun p q e => by
    rw [← read_due z, readF_eq] at e
    have bd : ∀ j, v2of z = .int j → j.natAbs < 10 ^ 18 := fun j hj => by
      unfold v2of at hj
      split at hj
      · cases hj; decide
      · exact (iw_bound hj).1
    unfold fin2 at e
    split at e
    · rename_i p' q' e1 e2
      split at e
      · cases e
        exact ⟨(iw_bound e1).1, bd _ e2⟩
      · cases e
    · cases e
  unfold fdD
  split
  · rename_i p q e
    obtain ⟨hp, hq⟩ := hb p q e
    exact ((SwL.cons (Sw.str (n := 5) (by kernel_rfl) (by decide)) (.cons (((SwL.cons (.int hp) (.cons (.int hq) (SwL.nil (k := 0)))).tup)) SwL.nil)).tup).mono (by decide) (by decide)
  · exact ((SwL.cons (Sw.str (n := 5) (by kernel_rfl) (by decide)) (.cons (.int (small18 (by omega) (by omega))) (SwL.nil (k := 0)))).tup).mono (by decide) (by decide)
section
variable {X : Cx}
/-- repr(x), x a list or a tuple of such data -/
def rReprH (K : PySem.W.Frag) : List V → Hp → VK → Prop := fun xs H Q => ∃ (a : Addr) (d : PyData), xs = [.ref a] ∧ Dp K H (.ref a) d ∧ Sw d 400000 60 ∧ Q (.str d.shown) H
theorem call_reprH {K : PySem.W.Frag} (hK : X.K = K) (gd : X.A.guards = some []) (hu : X.A.units + 64 < cLine) : CallR X (.builtin "repr") (rReprH K) := by
  subst hK
  intro pins s σ H xs us Q I r h
  obtain ⟨a, d, rfl, hd, sh, q⟩ := h
  cases r with
  | cons r1 r2 =>
    cases r2
    cases (show _ = Value.ref a from r1)
    obtain ⟨as, rd⟩ := Dp.reads I d _ _ hd rfl
    have fits : d.shown.length ≤ sizeLine := by
      have h1 := PyData.shown_le 24 (by decide) d (PyData.leavesShort_of_canLay0 24 d sh.lay sh.sht)
      have h2 := sh.wgt
      rw [PySem.sizeLine_eq]
      omega
    have dp := sh.dep
    have nod : d.hasDict = false := PyData.hasDict_of_canLay d sh.lay
    exact PySem.repr_of_reads' rd sh.shw (fun z => by rw [nod] at z; cases z) gd (by omega) (fun _ _ e => e) (fun h' u tk hk => ⟨.str d.shown, H, I.kept (t' := tk) hk, ⟨u, rfl⟩, q⟩) fits
theorem g_reprH {K : PySem.W.Frag} {H : Hp} {Q : VK} {a : Addr} {d : PyData} (h : Dp K H (.ref a) d) (sh : Sw d 400000 60) (q : Q (.str d.shown) H) : rReprH K [.ref a] H Q := ⟨a, d, rfl, h, sh, q⟩
end
end SH
end

section
/-! #### the walk's words -/
local macro_rules | `(tactic| walk_at "ne0") => `(tactic| first
  | assumption
  | (refine Ne.symm ?_; assumption))
local macro_rules | `(tactic| walk_at "ne") => `(tactic| first
  | assumption
  | (refine Ne.symm ?_; assumption)
  | (refine' L2.ne_of_none ?gx (by assumption); (case gx => walk_at "hp"))
  | (refine' Ne.symm (L2.ne_of_none ?gx (by assumption)); (case gx => walk_at "hp")))
local macro_rules | `(tactic| walk_at "hp") => `(tactic| first
  | assumption
  | exact L2.upd_same
  | (refine' SH.upd_new ?gh (by assumption); (case gh => walk_at "hp"))
  | (refine' (L2.upd_ne ?gn).trans ?gh; (case gn => walk_at "ne0"); (case gh => walk_at "hp"))
  | (refine' SH.Off.at (by assumption) ?gn ?gh; (case gn => walk_at "nin"); (case gh => walk_at "hp")))
local macro_rules | `(tactic| walk_at "nin") => `(tactic| first
  | exact SH.nin_nil
  | (refine SH.nin_cons ?_ ?_; (· walk_at "ne0"); (· walk_at "nin")))
local macro_rules | `(tactic| walk_at "sq") => `(tactic| first
  | assumption
  | (apply L2.SqL.of; (· walk_at "hp"))
  | (apply L2.SqT.of; (· walk_at "hp"))
  | (refine' SH.seqT_new ?gx (by assumption); (case gx => walk_at "sq"))
  | (refine' SH.seqL_new ?gx (by assumption); (case gx => walk_at "sq"))
  | (refine' SH.Off.seqT (by assumption) ?gx; (case gx => walk_at "sq"))
  | (refine' SH.Off.seqL (by assumption) ?gy ?gx; (case gx => walk_at "sq"); (case gy => walk_at "nin")))
local macro_rules | `(tactic| walk_at "kd") => `(tactic| first
  | assumption | exact SH.KdV.int _ | exact SH.KdV.bl _ | exact SH.KdV.str _ | exact SH.KdV.non
  | (apply SH.KdV.tup; (· walk_at "sq")) | (apply SH.KdV.lst; (· walk_at "sq")))
/-- a way that cannot be -/
local macro_rules | `(tactic| walk_at "no") => `(tactic| (exfalso; first | assumption | omega | contradiction | (simp_all; done)))
/-- one step -/
local macro_rules | `(tactic| walk_at "g1") => `(tactic| with_reducible first
  | refine SH.g_var (by with_unfolding_all rfl) ?_ | refine SH.g_c ?_ | refine SH.g_op ?_ | refine SH.g_un ?_ | refine SH.g_I0 ?_ | refine SH.g_U ?_
  | refine SH.g_eqI ?_ | refine SH.g_neI ?_ | refine SH.g_eqS ?_ | refine SH.g_neS ?_
  | refine SH.g_test ?_ | refine SH.g_B ?_ | refine SH.g_isB ?_ | refine SH.g_and ?_ | refine SH.g_or ?_ | refine SH.g_not ?_ | refine SH.g_andV ?_ | refine SH.g_orV ?_ | refine SH.g_notV ?_ | refine SH.g_ifE ?_ | refine SH.g_chain ?_
  | refine SH.g_nil ?_ | refine SH.g_cons ?_ | refine SH.g_tup ?_ | refine SH.g_lst ?_ | refine SH.g_call ?_ | refine SH.g_fld ?_ | refine SH.g_meth ?_ | refine SH.g_make ?_ | refine SH.g_cb ?_ | refine SH.g_bm ?_
  | refine SH.g_seq ?_ | refine SH.g_asg ?_ | refine SH.g_name ?_ | refine SH.g_drop ?_ | refine SH.g_ret ?_ | refine SH.g_retN ?_ | refine SH.g_next ?_ | refine SH.g_brk ?_ | refine SH.g_cnt ?_ | refine SH.g_ifs ?_ | refine SH.g_par ?_ | refine SH.g_par2 ?_ | refine SH.g_fldS ?_ | refine SH.g_raise ?_ | refine SH.g_rs ?_
  | refine SH.g_sub ?_ | refine SH.g_yes ?_ | refine SH.g_sl ?_ | refine SH.g_noPart ?_ | refine SH.g_part ?_ | refine SH.g_intO ?_ | refine SH.g_dget ?_ | refine SH.g_dput ?_ | refine SH.g_forR ?_ | refine SH.g_forL ?_ | refine SH.g_forT ?_ | refine SH.g_lcR ?_ | refine SH.g_lcL ?_ | refine SH.g_lcT ?_ | refine SH.g_gcons ?_ | refine SH.g_gnil ?_
  | refine SH.br_t ?_ | refine SH.br_f ?_
  | refine SH.g_int ?_ | refine SH.g_abs ?_ | refine SH.g_max2 ?_ | refine SH.g_min2 ?_)
local macro_rules | `(tactic| walk_at "g2") => `(tactic| first
  | walk_at "g1"
  | ((with_reducible refine' SH.g_isiInt ?ga ?gz); (case ga => walk_at "kd"))
  | ((with_reducible refine' SH.g_isiBool ?ga ?gz); (case ga => walk_at "kd"))
  | ((with_reducible refine' SH.g_isiStr ?ga ?gz); (case ga => walk_at "kd"))
  | ((with_reducible refine' SH.g_isiTup ?ga ?gz); (case ga => walk_at "kd"))
  | ((with_reducible refine' SH.g_ixT ?ga ?gb ?gz); (case ga => walk_at "sq"); (case gb => rfl))
  | ((with_reducible refine' SH.g_ixL ?ga ?gb ?gz); (case ga => walk_at "sq"); (case gb => first | rfl | (apply SH.atI_refs; assumption)))
  | ((with_reducible refine SH.br_F ?_ ?_); (· decide +kernel)) | ((with_reducible refine SH.br_T ?_ ?_); (· decide +kernel)) | ((with_reducible refine SH.br_NF ?_ ?_); (· decide +kernel)) | ((with_reducible refine SH.br_NT ?_ ?_); (· decide +kernel))
  | ((with_reducible refine' SH.g_gtup ?ga ?gb ?gz); (case ga => walk_at "sq"); (case gb => rfl))
  | ((with_reducible refine' SH.g_lenT ?ga ?gz); (case ga => walk_at "sq"))
  | ((with_reducible refine' SH.g_lenL ?ga ?gz); (case ga => walk_at "sq"))
  | ((with_reducible refine SH.g_mkT (SH.sz rfl) ?_); intro _ _)
  | ((with_reducible refine SH.g_mkL (SH.sz rfl) ?_); intro _ _)
  | ((with_reducible refine SH.g_dnew ?_); intro _ _)
  | ((with_reducible refine' SH.g_tupL ?ga ?gz); (case ga => walk_at "sq"); intro _ _)
  | ((with_reducible refine' SH.g_lstL ?ga ?gz); (case ga => walk_at "sq"); intro _ _)
  | ((with_reducible refine' SH.g_lstT ?ga ?gz); (case ga => walk_at "sq"); intro _ _)
  | ((with_reducible refine' SH.g_dgR ?ga ?gb ?gz); (case ga => walk_at "hp"); (case gb => walk_at "dv"))
  | ((with_reducible refine' SH.g_fldR ?ga ?gb ?gc ?gd ?gz); (case ga => walk_at "hp"); (case gb => walk_at "cl"); (case gc => walk_at "na"); (case gd => walk_at "fv"))
  | ((with_reducible refine' SH.g_insR ?ga ?gb ?gz); (case ga => walk_at "hp"); (case gb => walk_at "fn"))
  | ((with_reducible refine' SH.g_setL ?ga ?gb ?gz); (case ga => walk_at "hp"); (case gb => rfl))
  | ((with_reducible refine SH.g_I ?_ ?_); (· walk_at "ci"))
  | ((with_reducible refine' SH.g_slL ?ga ?gz); (case ga => walk_at "sq"); intro _ _)
  | ((with_reducible refine' SH.g_cat ?ga ?gb ?gc ?gz); (case ga => walk_at "hp"); (case gb => walk_at "hp"); (case gc => walk_at "ls"); intro _ _))
/-- the side conditions of numbers: a divisor, a factor -/
local macro_rules | `(tactic| walk_at "ci") => `(tactic| first
  | (show _ ≠ _; omega) | (show _ < _; omega) | (constructor <;> omega) | (refine Or.inr ⟨?_, ?_⟩ <;> (show _ < _; omega)) | (refine Or.inl ⟨?_, ?_⟩ <;> (show _ < _; omega)) | (refine ⟨?_, ?_, ?_⟩ <;> decide))
local macro_rules | `(tactic| walk_at "ls") => `(tactic| first | (show _ ≤ _; exact Nat.le_trans (by assumption) (by decide)) | (show _ ≤ _; exact Nat.le_trans (by simp; omega) (by decide : 1000 ≤ sizeLine)))
local macro_rules | `(tactic| walk_at "dv") => `(tactic| rfl)
local macro_rules | `(tactic| walk_at "fv") => `(tactic| rfl)
local macro_rules | `(tactic| walk_at "fn") => `(tactic| rfl)
local macro_rules | `(tactic| walk_at "cl") => `(tactic| assumption)
local macro_rules | `(tactic| walk_at "na") => `(tactic| assumption)
local macro_rules | `(tactic| walk_at "go") => `(tactic| repeat walk_at "g2")
/-- a way is split -/
local macro_rules | `(tactic| walk_at "br") => `(tactic| with_reducible first
  | refine SH.br_d (fun _ => ?_) (fun _ => ?_) | refine SH.br_nd (fun _ => ?_) (fun _ => ?_) | refine SH.br_b (fun _ => ?_) (fun _ => ?_))
/-- all ways -/
local macro_rules | `(tactic| walk_at "all") => `(tactic| repeat' first | walk_at "g2" | (walk_at "br" <;> try (walk_at "no")))
/-- a truth value is the other -/
local macro_rules | `(tactic| walk_at "bq") => `(tactic| first | rfl | (simp_all; done) | (simp_all; omega) | (simp only [decide_eq_true_eq, decide_eq_false_iff_not, Bool.and_eq_true, Bool.or_eq_true] at *; omega))
/-- what was tracked is as it was -/
local macro_rules | `(tactic| walk_at "of") => `(tactic| first
  | assumption
  | exact SH.Off.refl _ _
  | (refine' SH.Off.new2 ?gx (by assumption); (case gx => walk_at "of"))
  | (refine' SH.Off.mut ?gx (by assumption); (case gx => walk_at "of"))
  | (refine' SH.Off.trans' ?gx (by assumption) ?gy; (case gy => (intro _ h; (first | exact h | (simp at h; done) | (simp at h ⊢; simp [h]; done)))); (case gx => walk_at "of")))
namespace SH
open PySem PySem.Spec PyProof.Rows L2 LamX
section
variable {X : Cx} {K : PySem.W.Frag} {x n : Str} {c : Value} {i : Nat} {body suite : List Stmt} {b₀ : Stmt} {np pos pos' : Pos} {tb : WX → TS} {ts : Addr → Value → Option Addr → TS} {Wout : WX}
/-- ps_tryAs where the exceptions may bear a context -/
theorem ps_tryAsC (hK : X.K = K) (hs : X.stack = X.env :: X.outer) (hf : X.env.frame = some X.env.locals) (hN : X.N.Nodup) (hi : X.N[i]? = some n) (hln : X.env.kindOf n = some .local) (hc : Names X x c) (tk : L2.Takes X Wout)
    (hb : ∀ (W : WX) (pn : List (Addr × Obj)) (xe : Value → Shared → Prop), L2.Takes (X.tr pn xe) W → PassesOwn (model X.prog X.w) X.A X.env xe → PSs (X.tr pn xe) body (tb W))
    (hsu : ∀ (a : Addr) (oe : Obj) (cls : Value) (d : Option Addr) (pn : List (Addr × Obj)), Zc cls d oe → (∃ vs, oe.data = .fields vs) → PSs (X.suite a ((a, oe) :: pn)) (b₀ :: suite) (ts a cls d)) :
    PS X (.Try body [.ExceptHandler (some (.Name x np)) (some n) (b₀ :: suite) pos'] [] [] pos) (tTryAs K c i tb ts Wout) := by
  subst hK
  exact L2.ps_try_as hs hf hN hi hln hc tk hb hsu
end
section
variable {P : Program} {w : World} {K : PySem.W.Frag} {mg : Str → Option Value} {base : Heap}
theorem gets_refused (T : Txt P w K mg) : ∃ g cdv, GetsL K mg "_law_refused" "call" ["call", "e"] (defScope s_law_refused) (defBody s_law_refused) g cdv := by
  obtain ⟨f, fd, F, hm⟩ := T.d_law_refused
  have hb := F.bindsN (ps := ["call"]) (fun _ _ _ _ _ _ us hl => match us, hl with | [_], _ => rfl)
  have hk := F.kp
  obtain ⟨oc, od, dV, kV, doc, pm, an, cdv, ct, osl, rfl, lk, hc, _, _⟩ := F.ex
  exact ⟨f, cdv, hm, hk, ⟨oc, od, _, dV, kV, doc, pm, an, ct, osl, lk, hb⟩, hc, sc_law_refused, rfl, .inl rfl⟩
theorem refused_gives {X : Cx} {g CS : Addr} {cdg : Value} {q : Str} (hme : X.mg "BadArgument" = some (.ref CS)) (xc : XcOk X.K CS "name") (xr : XrOk X.K CS CS true) :
    GivesTo X ["call", "e"] "_law_refused" (defScope s_law_refused) g cdg (defBody s_law_refused) "call" q (TTref CS "name") := by
  intro f c' s H Q tl act hc h
  refine ⟨_, pss_cons (ps_tryAsC (X := (cxOf C8.CX0 X.prog X.w X.K X.mg X.base ["call", "e"] "_law_refused" (defScope s_law_refused) g cdg X.A X.stack s H C8.E0).nox) (K := X.K) (i := 1) (c := .ref CS)
      (tb := fun W D σ H => ∃ Ech : XK, (∀ cls d σ' H', Ech cls d H' → W cls d σ' H') ∧ σ[0]? = some (some (.ref f)) ∧ H c' = some (CodeO c' q) ∧ tl Ech H fun _ H' => D.nx σ H')
      rfl rfl rfl sc_law_refused.nd rfl rfl ⟨rfl, by decide, .inl hme⟩ LamX.takes0 (fun W pn xe tk _ => ?_) (fun a oe cls d pn hz hf => pss_one (ps_ret (pe_xf (te := tVarL 2 1 (.ref a)) xc.xf xc.nf hz hf (by exact pe_varL (v := .ref a) (pv 1)))))) (pss_one (ps_ret pe_str)), ?_⟩
  · refine ⟨fun pins s' σ H' D I h' => ?_⟩
    obtain ⟨Ech, hW, h1, h2, h3⟩ := h'
    exact (pss_one (ps_expr (act W pn xe Ech _ _ tk hW))).run pins s' σ H' D I ⟨h1, h2, h3⟩
  · refine ⟨_, ?_, rfl, hc, h⟩
    rintro cls d σ' H' ⟨dd, v, rfl, rfl, hd, q'⟩
    refine ⟨true, xr.ex, fun _ a ha => ?_, fun z => Bool.noConfusion z⟩
    exact ⟨fun hl => List.getElem?_set_self (by rw [List.length_set] at hl; rw [hl]; decide), rfl, rfl, dd, _, v, rfl, hd, by kernel_rfl, q'⟩
end
end SH
end

section
/-! #### the walk's words -/
local macro_rules | `(tactic| walk_at "ne0") => `(tactic| first
  | assumption
  | (refine Ne.symm ?_; assumption))
local macro_rules | `(tactic| walk_at "ne") => `(tactic| first
  | assumption
  | (refine Ne.symm ?_; assumption)
  | (refine' L2.ne_of_none ?gx (by assumption); (case gx => walk_at "hp"))
  | (refine' Ne.symm (L2.ne_of_none ?gx (by assumption)); (case gx => walk_at "hp")))
local macro_rules | `(tactic| walk_at "hp") => `(tactic| first
  | assumption
  | exact L2.upd_same
  | (refine' SH.upd_new ?gh (by assumption); (case gh => walk_at "hp"))
  | (refine' (L2.upd_ne ?gn).trans ?gh; (case gn => walk_at "ne0"); (case gh => walk_at "hp"))
  | (refine' SH.Off.at (by assumption) ?gn ?gh; (case gn => walk_at "nin"); (case gh => walk_at "hp")))
local macro_rules | `(tactic| walk_at "nin") => `(tactic| first
  | exact SH.nin_nil
  | (refine SH.nin_cons ?_ ?_; (· walk_at "ne0"); (· walk_at "nin")))
local macro_rules | `(tactic| walk_at "sq") => `(tactic| first
  | assumption
  | (apply L2.SqL.of; (· walk_at "hp"))
  | (apply L2.SqT.of; (· walk_at "hp"))
  | (refine' SH.seqT_new ?gx (by assumption); (case gx => walk_at "sq"))
  | (refine' SH.seqL_new ?gx (by assumption); (case gx => walk_at "sq"))
  | (refine' SH.Off.seqT (by assumption) ?gx; (case gx => walk_at "sq"))
  | (refine' SH.Off.seqL (by assumption) ?gy ?gx; (case gx => walk_at "sq"); (case gy => walk_at "nin")))
local macro_rules | `(tactic| walk_at "kd") => `(tactic| first
  | assumption | exact SH.KdV.int _ | exact SH.KdV.bl _ | exact SH.KdV.str _ | exact SH.KdV.non
  | (apply SH.KdV.tup; (· walk_at "sq")) | (apply SH.KdV.lst; (· walk_at "sq")))
/-- a way that cannot be -/
local macro_rules | `(tactic| walk_at "no") => `(tactic| (exfalso; first | assumption | omega | contradiction | (simp_all; done)))
/-- one step -/
local macro_rules | `(tactic| walk_at "g1") => `(tactic| with_reducible first
  | refine SH.g_var (by with_unfolding_all rfl) ?_ | refine SH.g_c ?_ | refine SH.g_op ?_ | refine SH.g_un ?_ | refine SH.g_I0 ?_ | refine SH.g_U ?_
  | refine SH.g_eqI ?_ | refine SH.g_neI ?_ | refine SH.g_eqS ?_ | refine SH.g_neS ?_
  | refine SH.g_test ?_ | refine SH.g_B ?_ | refine SH.g_isB ?_ | refine SH.g_and ?_ | refine SH.g_or ?_ | refine SH.g_not ?_ | refine SH.g_andV ?_ | refine SH.g_orV ?_ | refine SH.g_notV ?_ | refine SH.g_ifE ?_ | refine SH.g_chain ?_
  | refine SH.g_nil ?_ | refine SH.g_cons ?_ | refine SH.g_tup ?_ | refine SH.g_lst ?_ | refine SH.g_call ?_ | refine SH.g_fld ?_ | refine SH.g_meth ?_ | refine SH.g_make ?_ | refine SH.g_cb ?_ | refine SH.g_bm ?_
  | refine SH.g_seq ?_ | refine SH.g_asg ?_ | refine SH.g_name ?_ | refine SH.g_drop ?_ | refine SH.g_ret ?_ | refine SH.g_retN ?_ | refine SH.g_next ?_ | refine SH.g_brk ?_ | refine SH.g_cnt ?_ | refine SH.g_ifs ?_ | refine SH.g_par ?_ | refine SH.g_par2 ?_ | refine SH.g_fldS ?_ | refine SH.g_raise ?_ | refine SH.g_rs ?_
  | refine SH.g_sub ?_ | refine SH.g_yes ?_ | refine SH.g_sl ?_ | refine SH.g_noPart ?_ | refine SH.g_part ?_ | refine SH.g_intO ?_ | refine SH.g_dget ?_ | refine SH.g_dput ?_ | refine SH.g_forR ?_ | refine SH.g_forL ?_ | refine SH.g_forT ?_ | refine SH.g_lcR ?_ | refine SH.g_lcL ?_ | refine SH.g_lcT ?_ | refine SH.g_gcons ?_ | refine SH.g_gnil ?_
  | refine SH.br_t ?_ | refine SH.br_f ?_
  | refine SH.g_int ?_ | refine SH.g_abs ?_ | refine SH.g_max2 ?_ | refine SH.g_min2 ?_)
local macro_rules | `(tactic| walk_at "g2") => `(tactic| first
  | walk_at "g1"
  | ((with_reducible refine' SH.g_isiInt ?ga ?gz); (case ga => walk_at "kd"))
  | ((with_reducible refine' SH.g_isiBool ?ga ?gz); (case ga => walk_at "kd"))
  | ((with_reducible refine' SH.g_isiStr ?ga ?gz); (case ga => walk_at "kd"))
  | ((with_reducible refine' SH.g_isiTup ?ga ?gz); (case ga => walk_at "kd"))
  | ((with_reducible refine' SH.g_ixT ?ga ?gb ?gz); (case ga => walk_at "sq"); (case gb => rfl))
  | ((with_reducible refine' SH.g_ixL ?ga ?gb ?gz); (case ga => walk_at "sq"); (case gb => first | rfl | (apply SH.atI_refs; assumption)))
  | ((with_reducible refine SH.br_F ?_ ?_); (· decide +kernel)) | ((with_reducible refine SH.br_T ?_ ?_); (· decide +kernel)) | ((with_reducible refine SH.br_NF ?_ ?_); (· decide +kernel)) | ((with_reducible refine SH.br_NT ?_ ?_); (· decide +kernel))
  | ((with_reducible refine' SH.g_gtup ?ga ?gb ?gz); (case ga => walk_at "sq"); (case gb => rfl))
  | ((with_reducible refine' SH.g_lenT ?ga ?gz); (case ga => walk_at "sq"))
  | ((with_reducible refine' SH.g_lenL ?ga ?gz); (case ga => walk_at "sq"))
  | ((with_reducible refine SH.g_mkT (SH.sz rfl) ?_); intro _ _)
  | ((with_reducible refine SH.g_mkL (SH.sz rfl) ?_); intro _ _)
  | ((with_reducible refine SH.g_dnew ?_); intro _ _)
  | ((with_reducible refine' SH.g_tupL ?ga ?gz); (case ga => walk_at "sq"); intro _ _)
  | ((with_reducible refine' SH.g_lstL ?ga ?gz); (case ga => walk_at "sq"); intro _ _)
  | ((with_reducible refine' SH.g_lstT ?ga ?gz); (case ga => walk_at "sq"); intro _ _)
  | ((with_reducible refine' SH.g_dgR ?ga ?gb ?gz); (case ga => walk_at "hp"); (case gb => walk_at "dv"))
  | ((with_reducible refine' SH.g_fldR ?ga ?gb ?gc ?gd ?gz); (case ga => walk_at "hp"); (case gb => walk_at "cl"); (case gc => walk_at "na"); (case gd => walk_at "fv"))
  | ((with_reducible refine' SH.g_insR ?ga ?gb ?gz); (case ga => walk_at "hp"); (case gb => walk_at "fn"))
  | ((with_reducible refine' SH.g_setL ?ga ?gb ?gz); (case ga => walk_at "hp"); (case gb => rfl))
  | ((with_reducible refine SH.g_I ?_ ?_); (· walk_at "ci"))
  | ((with_reducible refine' SH.g_slL ?ga ?gz); (case ga => walk_at "sq"); intro _ _)
  | ((with_reducible refine' SH.g_cat ?ga ?gb ?gc ?gz); (case ga => walk_at "hp"); (case gb => walk_at "hp"); (case gc => walk_at "ls"); intro _ _))
/-- the side conditions of numbers: a divisor, a factor -/
local macro_rules | `(tactic| walk_at "ci") => `(tactic| first
  | (show _ ≠ _; omega) | (show _ < _; omega) | (constructor <;> omega) | (refine Or.inr ⟨?_, ?_⟩ <;> (show _ < _; omega)) | (refine Or.inl ⟨?_, ?_⟩ <;> (show _ < _; omega)) | (refine ⟨?_, ?_, ?_⟩ <;> decide))
local macro_rules | `(tactic| walk_at "ls") => `(tactic| first | (show _ ≤ _; exact Nat.le_trans (by assumption) (by decide)) | (show _ ≤ _; exact Nat.le_trans (by simp; omega) (by decide : 1000 ≤ sizeLine)))
local macro_rules | `(tactic| walk_at "dv") => `(tactic| rfl)
local macro_rules | `(tactic| walk_at "fv") => `(tactic| rfl)
local macro_rules | `(tactic| walk_at "fn") => `(tactic| rfl)
local macro_rules | `(tactic| walk_at "cl") => `(tactic| assumption)
local macro_rules | `(tactic| walk_at "na") => `(tactic| assumption)
local macro_rules | `(tactic| walk_at "go") => `(tactic| repeat walk_at "g2")
/-- a way is split -/
local macro_rules | `(tactic| walk_at "br") => `(tactic| with_reducible first
  | refine SH.br_d (fun _ => ?_) (fun _ => ?_) | refine SH.br_nd (fun _ => ?_) (fun _ => ?_) | refine SH.br_b (fun _ => ?_) (fun _ => ?_))
/-- all ways -/
local macro_rules | `(tactic| walk_at "all") => `(tactic| repeat' first | walk_at "g2" | (walk_at "br" <;> try (walk_at "no")))
/-- a truth value is the other -/
local macro_rules | `(tactic| walk_at "bq") => `(tactic| first | rfl | (simp_all; done) | (simp_all; omega) | (simp only [decide_eq_true_eq, decide_eq_false_iff_not, Bool.and_eq_true, Bool.or_eq_true] at *; omega))
/-- what was tracked is as it was -/
local macro_rules | `(tactic| walk_at "of") => `(tactic| first
  | assumption
  | exact SH.Off.refl _ _
  | (refine' SH.Off.new2 ?gx (by assumption); (case gx => walk_at "of"))
  | (refine' SH.Off.mut ?gx (by assumption); (case gx => walk_at "of"))
  | (refine' SH.Off.trans' ?gx (by assumption) ?gy; (case gy => (intro _ h; (first | exact h | (simp at h; done) | (simp at h ⊢; simp [h]; done)))); (case gx => walk_at "of")))
namespace SH
open PySem PySem.Spec PyProof.Rows L2 LamX
/-! ### what _law_met makes of a lambda: what it reads, or the wrong line -/
def metE (C : Addr) (Q : VK) : XK := fun cls d H' => ∃ dd v, cls = .ref C ∧ d = some dd ∧ H' dd = some (.xd [("line", v)]) ∧ ∀ p, H' p = none → Q (.ref p) (upd H' p (.tup [.str "bad", v]))
def TTmet (C : Addr) : (XK → Hp → VK → Prop) → Hp → VK → Prop := fun tl H Q => tl (metE C Q) H fun v H' => mkT [.str "read", v] H' Q
section
variable {P : Program} {w : World} {K : PySem.W.Frag} {mg : Str → Option Value} {base : Heap}
theorem gets_met (T : Txt P w K mg) : ∃ g cdv, GetsL K mg "_law_met" "call" ["call", "e"] (defScope s_law_met) (defBody s_law_met) g cdv := by
  obtain ⟨f, fd, F, hm⟩ := T.d_law_met
  have hb := F.bindsN (ps := ["call"]) (fun _ _ _ _ _ _ us hl => match us, hl with | [_], _ => rfl)
  have hk := F.kp
  obtain ⟨oc, od, dV, kV, doc, pm, an, cdv, ct, osl, rfl, lk, hc, _, _⟩ := F.ex
  exact ⟨f, cdv, hm, hk, ⟨oc, od, _, dV, kV, doc, pm, an, ct, osl, lk, hb⟩, hc, sc_law_met, rfl, .inl rfl⟩
theorem met_gives {X : Cx} {g : Addr} {cdg : Value} {q : Str} (T : Txt X.prog X.w X.K X.mg) :
    GivesTo X ["call", "e"] "_law_met" (defScope s_law_met) g cdg (defBody s_law_met) "call" q (TTmet (He.ga X.K "BadText")) := by
  intro f c' s H Q tl act hc h
  have xc := T.xc_BadText
  have xr := T.xr_BadText_BadText
  refine ⟨_, pss_one (ps_tryAsC (X := (cxOf C8.CX0 X.prog X.w X.K X.mg X.base ["call", "e"] "_law_met" (defScope s_law_met) g cdg X.A X.stack s H C8.E0).nox) (K := X.K) (i := 1) (c := .ref (He.ga X.K "BadText"))
      (tb := fun W D σ H => ∃ Ech : XK, (∀ cls d σ' H', Ech cls d H' → W cls d σ' H') ∧ σ[0]? = some (some (.ref f)) ∧ H c' = some (CodeO c' q) ∧ tl Ech H fun v H' => mkT [.str "read", v] H' D.rt)
      rfl rfl rfl sc_law_met.nd rfl rfl ⟨rfl, by decide, .inl T.g_BadText⟩ LamX.takes0 (fun W pn xe tk _ => ?_)
      (fun a oe cls d pn hz hf => pss_one (ps_ret (pe_tup (pa_cons pe_str (pa_cons (pe_xf (te := tVarL 2 1 (.ref a)) xc.xf xc.nf hz hf (by exact pe_varL (v := .ref a) (pv 1))) pa_nil)))))), ?_⟩
  · refine ⟨fun pins s' σ H' D I h' => ?_⟩
    obtain ⟨Ech, hW, h1, h2, h3⟩ := h'
    exact (pss_one (ps_ret (pe_tup (pa_cons pe_str (pa_cons (act W pn xe Ech _ _ tk hW) pa_nil))))).run pins s' σ H' D I ⟨h1, h2, h3⟩
  · refine ⟨_, ?_, rfl, hc, h⟩
    rintro cls d σ' H' ⟨dd, v, rfl, rfl, hd, q'⟩
    refine ⟨true, xr.ex, fun _ a ha => ?_, fun z => Bool.noConfusion z⟩
    have l1 : (σ'.set 1 (some (.ref a))).length = 2 → (σ'.set 1 (some (.ref a)))[1]? = some (some (V.ref a)) := fun hl => List.getElem?_set_self (by rw [List.length_set] at hl; rw [hl]; decide)
    walk_at "go"
    refine ⟨l1, ?_⟩
    walk_at "go"
    refine ⟨rfl, rfl, dd, _, v, rfl, hd, by kernel_rfl, ?_⟩
    walk_at "go"
    rename_i p hp
    exact q' p hp
end
def refE (C : Addr) (f : Str) (Q : VK) : XK := fun cls d H' => ∃ dd v, cls = .ref C ∧ d = some dd ∧ H' dd = some (.xd [(f, v)]) ∧ Q v H'
section
variable {K : PySem.W.Frag} {σ : L2.St} {H : Hp} {Q : VK} {P0 C : Addr} {f qq : Str}
theorem g_lamR {t : XK → TE} (h1 : TabS H P0 qq) (q : ∀ H1, Off [P0] H H1 → TabS H1 P0 qq → t (refE C f Q) σ H1 fun _ H' => Q (.str "") H') : tLam1 P0 qq (TTref C f) t σ H Q := ⟨h1, fun H1 o1 t1 => q H1 o1 t1⟩
theorem g_lamM {t : XK → TE} (h1 : TabS H P0 qq) (q : ∀ H1, Off [P0] H H1 → TabS H1 P0 qq → t (metE C Q) σ H1 fun v H' => mkT [.str "read", v] H' Q) : tLam1 P0 qq (TTmet C) t σ H Q := ⟨h1, fun H1 o1 t1 => q H1 o1 t1⟩
theorem g_refE {v : V} (q : ∀ d H', H d = none → Off [] H H' → Q v H') : RaiseW C f v H (refE C f Q) := fun d hd => ⟨d, v, rfl, rfl, upd_same, q d _ hd (.new hd)⟩
theorem g_metE {v : V} (q : ∀ p H', H' p = some (.tup [.str "bad", v]) → Off [] H H' → Q (.ref p) H') : RaiseW C "line" v H (metE C Q) := fun d hd => ⟨d, v, rfl, rfl, upd_same, fun p hp => q p _ upd_same ((Off.new hd).new2 hp)⟩
theorem g_eqB {x : Bool} (q : Q (.bl true) H) : rEq (.bl x) (.bl x) H Q := ⟨rfl, by rw [decide_eq_true rfl]; exact q⟩
end
end SH
end

section
/-! #### the walk's words -/
local macro_rules | `(tactic| walk_at "ne0") => `(tactic| first
  | assumption
  | (refine Ne.symm ?_; assumption))
local macro_rules | `(tactic| walk_at "ne") => `(tactic| first
  | assumption
  | (refine Ne.symm ?_; assumption)
  | (refine' L2.ne_of_none ?gx (by assumption); (case gx => walk_at "hp"))
  | (refine' Ne.symm (L2.ne_of_none ?gx (by assumption)); (case gx => walk_at "hp")))
local macro_rules | `(tactic| walk_at "hp") => `(tactic| first
  | assumption
  | exact L2.upd_same
  | (refine' SH.upd_new ?gh (by assumption); (case gh => walk_at "hp"))
  | (refine' (L2.upd_ne ?gn).trans ?gh; (case gn => walk_at "ne0"); (case gh => walk_at "hp"))
  | (refine' SH.Off.at (by assumption) ?gn ?gh; (case gn => walk_at "nin"); (case gh => walk_at "hp")))
local macro_rules | `(tactic| walk_at "nin") => `(tactic| first
  | exact SH.nin_nil
  | (refine SH.nin_cons ?_ ?_; (· walk_at "ne0"); (· walk_at "nin")))
local macro_rules | `(tactic| walk_at "sq") => `(tactic| first
  | assumption
  | (apply L2.SqL.of; (· walk_at "hp"))
  | (apply L2.SqT.of; (· walk_at "hp"))
  | (refine' SH.seqT_new ?gx (by assumption); (case gx => walk_at "sq"))
  | (refine' SH.seqL_new ?gx (by assumption); (case gx => walk_at "sq"))
  | (refine' SH.Off.seqT (by assumption) ?gx; (case gx => walk_at "sq"))
  | (refine' SH.Off.seqL (by assumption) ?gy ?gx; (case gx => walk_at "sq"); (case gy => walk_at "nin")))
local macro_rules | `(tactic| walk_at "kd") => `(tactic| first
  | assumption | exact SH.KdV.int _ | exact SH.KdV.bl _ | exact SH.KdV.str _ | exact SH.KdV.non
  | (apply SH.KdV.tup; (· walk_at "sq")) | (apply SH.KdV.lst; (· walk_at "sq")))
/-- a way that cannot be -/
local macro_rules | `(tactic| walk_at "no") => `(tactic| (exfalso; first | assumption | omega | contradiction | (simp_all; done)))
/-- one step -/
local macro_rules | `(tactic| walk_at "g1") => `(tactic| with_reducible first
  | refine SH.g_var (by with_unfolding_all rfl) ?_ | refine SH.g_c ?_ | refine SH.g_op ?_ | refine SH.g_un ?_ | refine SH.g_I0 ?_ | refine SH.g_U ?_
  | refine SH.g_eqI ?_ | refine SH.g_neI ?_ | refine SH.g_eqS ?_ | refine SH.g_neS ?_
  | refine SH.g_test ?_ | refine SH.g_B ?_ | refine SH.g_isB ?_ | refine SH.g_and ?_ | refine SH.g_or ?_ | refine SH.g_not ?_ | refine SH.g_andV ?_ | refine SH.g_orV ?_ | refine SH.g_notV ?_ | refine SH.g_ifE ?_ | refine SH.g_chain ?_
  | refine SH.g_nil ?_ | refine SH.g_cons ?_ | refine SH.g_tup ?_ | refine SH.g_lst ?_ | refine SH.g_call ?_ | refine SH.g_fld ?_ | refine SH.g_meth ?_ | refine SH.g_make ?_ | refine SH.g_cb ?_ | refine SH.g_bm ?_
  | refine SH.g_seq ?_ | refine SH.g_asg ?_ | refine SH.g_name ?_ | refine SH.g_drop ?_ | refine SH.g_ret ?_ | refine SH.g_retN ?_ | refine SH.g_next ?_ | refine SH.g_brk ?_ | refine SH.g_cnt ?_ | refine SH.g_ifs ?_ | refine SH.g_par ?_ | refine SH.g_par2 ?_ | refine SH.g_fldS ?_ | refine SH.g_raise ?_ | refine SH.g_rs ?_
  | refine SH.g_sub ?_ | refine SH.g_yes ?_ | refine SH.g_sl ?_ | refine SH.g_noPart ?_ | refine SH.g_part ?_ | refine SH.g_intO ?_ | refine SH.g_dget ?_ | refine SH.g_dput ?_ | refine SH.g_forR ?_ | refine SH.g_forL ?_ | refine SH.g_forT ?_ | refine SH.g_lcR ?_ | refine SH.g_lcL ?_ | refine SH.g_lcT ?_ | refine SH.g_gcons ?_ | refine SH.g_gnil ?_
  | refine SH.br_t ?_ | refine SH.br_f ?_
  | refine SH.g_int ?_ | refine SH.g_abs ?_ | refine SH.g_max2 ?_ | refine SH.g_min2 ?_)
local macro_rules | `(tactic| walk_at "g2") => `(tactic| first
  | walk_at "g1"
  | ((with_reducible refine' SH.g_isiInt ?ga ?gz); (case ga => walk_at "kd"))
  | ((with_reducible refine' SH.g_isiBool ?ga ?gz); (case ga => walk_at "kd"))
  | ((with_reducible refine' SH.g_isiStr ?ga ?gz); (case ga => walk_at "kd"))
  | ((with_reducible refine' SH.g_isiTup ?ga ?gz); (case ga => walk_at "kd"))
  | ((with_reducible refine' SH.g_ixT ?ga ?gb ?gz); (case ga => walk_at "sq"); (case gb => rfl))
  | ((with_reducible refine' SH.g_ixL ?ga ?gb ?gz); (case ga => walk_at "sq"); (case gb => first | rfl | (apply SH.atI_refs; assumption)))
  | ((with_reducible refine SH.br_F ?_ ?_); (· decide +kernel)) | ((with_reducible refine SH.br_T ?_ ?_); (· decide +kernel)) | ((with_reducible refine SH.br_NF ?_ ?_); (· decide +kernel)) | ((with_reducible refine SH.br_NT ?_ ?_); (· decide +kernel))
  | ((with_reducible refine' SH.g_gtup ?ga ?gb ?gz); (case ga => walk_at "sq"); (case gb => rfl))
  | ((with_reducible refine' SH.g_lenT ?ga ?gz); (case ga => walk_at "sq"))
  | ((with_reducible refine' SH.g_lenL ?ga ?gz); (case ga => walk_at "sq"))
  | ((with_reducible refine SH.g_mkT (SH.sz rfl) ?_); intro _ _)
  | ((with_reducible refine SH.g_mkL (SH.sz rfl) ?_); intro _ _)
  | ((with_reducible refine SH.g_dnew ?_); intro _ _)
  | ((with_reducible refine' SH.g_tupL ?ga ?gz); (case ga => walk_at "sq"); intro _ _)
  | ((with_reducible refine' SH.g_lstL ?ga ?gz); (case ga => walk_at "sq"); intro _ _)
  | ((with_reducible refine' SH.g_lstT ?ga ?gz); (case ga => walk_at "sq"); intro _ _)
  | ((with_reducible refine' SH.g_dgR ?ga ?gb ?gz); (case ga => walk_at "hp"); (case gb => walk_at "dv"))
  | ((with_reducible refine' SH.g_fldR ?ga ?gb ?gc ?gd ?gz); (case ga => walk_at "hp"); (case gb => walk_at "cl"); (case gc => walk_at "na"); (case gd => walk_at "fv"))
  | ((with_reducible refine' SH.g_insR ?ga ?gb ?gz); (case ga => walk_at "hp"); (case gb => walk_at "fn"))
  | ((with_reducible refine' SH.g_setL ?ga ?gb ?gz); (case ga => walk_at "hp"); (case gb => rfl))
  | ((with_reducible refine SH.g_I ?_ ?_); (· walk_at "ci"))
  | ((with_reducible refine' SH.g_slL ?ga ?gz); (case ga => walk_at "sq"); intro _ _)
  | ((with_reducible refine' SH.g_cat ?ga ?gb ?gc ?gz); (case ga => walk_at "hp"); (case gb => walk_at "hp"); (case gc => walk_at "ls"); intro _ _))
/-- the side conditions of numbers: a divisor, a factor -/
local macro_rules | `(tactic| walk_at "ci") => `(tactic| first
  | (show _ ≠ _; omega) | (show _ < _; omega) | (constructor <;> omega) | (refine Or.inr ⟨?_, ?_⟩ <;> (show _ < _; omega)) | (refine Or.inl ⟨?_, ?_⟩ <;> (show _ < _; omega)) | (refine ⟨?_, ?_, ?_⟩ <;> decide))
local macro_rules | `(tactic| walk_at "ls") => `(tactic| first | (show _ ≤ _; exact Nat.le_trans (by assumption) (by decide)) | (show _ ≤ _; exact Nat.le_trans (by simp; omega) (by decide : 1000 ≤ sizeLine)))
local macro_rules | `(tactic| walk_at "dv") => `(tactic| rfl)
local macro_rules | `(tactic| walk_at "fv") => `(tactic| rfl)
local macro_rules | `(tactic| walk_at "fn") => `(tactic| rfl)
local macro_rules | `(tactic| walk_at "cl") => `(tactic| assumption)
local macro_rules | `(tactic| walk_at "na") => `(tactic| assumption)
local macro_rules | `(tactic| walk_at "go") => `(tactic| repeat walk_at "g2")
/-- a way is split -/
local macro_rules | `(tactic| walk_at "br") => `(tactic| with_reducible first
  | refine SH.br_d (fun _ => ?_) (fun _ => ?_) | refine SH.br_nd (fun _ => ?_) (fun _ => ?_) | refine SH.br_b (fun _ => ?_) (fun _ => ?_))
/-- all ways -/
local macro_rules | `(tactic| walk_at "all") => `(tactic| repeat' first | walk_at "g2" | (walk_at "br" <;> try (walk_at "no")))
/-- a truth value is the other -/
local macro_rules | `(tactic| walk_at "bq") => `(tactic| first | rfl | (simp_all; done) | (simp_all; omega) | (simp only [decide_eq_true_eq, decide_eq_false_iff_not, Bool.and_eq_true, Bool.or_eq_true] at *; omega))
/-- what was tracked is as it was -/
local macro_rules | `(tactic| walk_at "of") => `(tactic| first
  | assumption
  | exact SH.Off.refl _ _
  | (refine' SH.Off.new2 ?gx (by assumption); (case gx => walk_at "of"))
  | (refine' SH.Off.mut ?gx (by assumption); (case gx => walk_at "of"))
  | (refine' SH.Off.trans' ?gx (by assumption) ?gy; (case gy => (intro _ h; (first | exact h | (simp at h; done) | (simp at h ⊢; simp [h]; done)))); (case gx => walk_at "of")))
namespace SH
open PySem PySem.Spec PyProof.Rows L2 LamX
theorem KdV.offTab {K : PySem.W.Frag} {H H' : Hp} {P : Addr} {ps : Array Value} {v : V} {kd : Kd} (hk : KdV K H v kd) (hP : H P = some (.tbl ps)) (o : Off [P] H H') : KdV K H' v kd := by
  cases hk with
  | non => exact .non
  | bl b => exact .bl b
  | int i => exact .int i
  | str z => exact .str z
  | @lst a xs h =>
    refine .lst (xs := xs) ?_
    rcases h with (h | ⟨o', h⟩) | h
    · exact .inl (.inl (o.at (by simpa using fun z : a = P => by rw [z, hP] at h; cases h) h))
    · exact .inl (.inr ⟨o', o.frzs _ _ _ h⟩)
    · exact .inr h
  | @tup a xs h => exact .tup (o.seqT h)
  | @dct a kvs h => exact .dct (o.at (by simpa using fun z : a = P => by rw [z, hP] at h; cases h) h)
theorem KdV.offDice {K : PySem.W.Frag} {H H' : Hp} {d : Addr} {c c' : Int} {v : V} {kd : Kd} (hk : KdV K H v kd) (h1 : DiceAt H d c) (h2 : DiceAt H' d c') (o : Off [d] H H') : KdV K H' v kd := by
  obtain ⟨_, _, _, e1, _⟩ := h1
  obtain ⟨_, _, _, e2, _⟩ := h2
  cases hk with
  | non => exact .non
  | bl b => exact .bl b
  | int i => exact .int i
  | str z => exact .str z
  | @lst a xs h =>
    rcases h with (h | ⟨o', h⟩) | h
    · by_cases z : a = d
      · rw [z]
        exact .lst (.of e2)
      · exact .lst (.inl (.inl (o.at (by simpa using z) h)))
    · exact .lst (.inl (.inr ⟨o', o.frzs _ _ _ h⟩))
    · exact .lst (.inr h)
  | @tup a xs h => exact .tup (o.seqT h)
  | @dct a kvs h => exact .dct (o.at (by simpa using fun z : a = d => by rw [z, e1] at h; cases h) h)
theorem DiceAt.noext {H : Hp} {a : Addr} {c : Int} (h : DiceAt H a c) : NoExt H [a] := fun b hb φ e => by
  obtain ⟨_, _, _, e2, _⟩ := h
  rw [List.mem_singleton.mp hb, e2] at e
  cases e
theorem DiceAt.neP {H : Hp} {a P : Addr} {c : Int} {q : Str} (h : DiceAt H a c) (t : TabS H P q) : a ≠ P := fun z => by
  obtain ⟨_, _, _, e1, _⟩ := h
  obtain ⟨_, e2, _⟩ := t
  rw [z, e2] at e1
  cases e1
def qR : Str := "_law_right.<locals>.<lambda>"
/-- what stands through the law's def: the dice, the table of code objects -/
structure RtC (H0 H : Hp) (a P0 : Addr) (c : Int) : Prop where
  dice : DiceAt H a c
  tab : TabS H P0 qR
  off : Off [a, P0] H0 H
theorem RtC.nil {H0 H H' : Hp} {a P0 : Addr} {c : Int} (r : RtC H0 H a P0 c) (o : Off [] H H') : RtC H0 H' a P0 c :=
  ⟨r.dice.off o nin_nil, SH.TabS.off r.tab o nin_nil NoExt.nil, r.off.trans (o.mono fun _ h => absurd h nin_nil)⟩
theorem RtC.dc {H0 H H' : Hp} {a P0 : Addr} {c c' : Int} (r : RtC H0 H a P0 c) (o : Off [a] H H') (d : DiceAt H' a c') : RtC H0 H' a P0 c' :=
  ⟨d, SH.TabS.off r.tab o (by simpa using (DiceAt.neP r.dice r.tab).symm) r.dice.noext, r.off.trans (o.mono (by simp))⟩
theorem RtC.tb {H0 H H' : Hp} {a P0 : Addr} {c : Int} (r : RtC H0 H a P0 c) (o : Off [P0] H H') (t : TabS H' P0 qR) : RtC H0 H' a P0 c :=
  ⟨r.dice.off o (by simpa using DiceAt.neP r.dice r.tab), t, r.off.trans (o.mono (by simp))⟩
theorem RtC.mu {H0 H H' : Hp} {a P0 : Addr} {c : Int} {L : Addr} {xs : List V} (r : RtC H0 H a P0 c) (o : Off [L] H H') (e : H L = some (.lst xs)) (h0 : H0 L = none) (na : a ≠ L) : RtC H0 H' a P0 c :=
  ⟨r.dice.off o (by simpa using na), SH.TabS.off r.tab o (fun z => by
    obtain ⟨_, e2, _⟩ := r.tab
    rw [List.mem_singleton.mp z, e] at e2; cases e2) (fun b hb φ z => by rw [List.mem_singleton.mp hb, e] at z; cases z), r.off.muts o fun u hu => by rw [List.mem_singleton.mp hu]; exact .inr h0⟩
theorem RtC.mono {H0 H : Hp} {a P0 : Addr} {c c' : Int} (r : RtC H0 H a P0 c) (h : c ≤ c') : RtC H0 H a P0 c' := ⟨r.dice.mono h, r.tab, r.off⟩
end SH
end

section
/-! #### the walk's words -/
local macro_rules | `(tactic| walk_at "ne0") => `(tactic| first
  | assumption
  | (refine Ne.symm ?_; assumption))
local macro_rules | `(tactic| walk_at "ne") => `(tactic| first
  | assumption
  | (refine Ne.symm ?_; assumption)
  | (refine' L2.ne_of_none ?gx (by assumption); (case gx => walk_at "hp"))
  | (refine' Ne.symm (L2.ne_of_none ?gx (by assumption)); (case gx => walk_at "hp")))
local macro_rules | `(tactic| walk_at "hp") => `(tactic| first
  | assumption
  | exact L2.upd_same
  | (refine' SH.upd_new ?gh (by assumption); (case gh => walk_at "hp"))
  | (refine' (L2.upd_ne ?gn).trans ?gh; (case gn => walk_at "ne0"); (case gh => walk_at "hp"))
  | (refine' SH.Off.at (by assumption) ?gn ?gh; (case gn => walk_at "nin"); (case gh => walk_at "hp")))
local macro_rules | `(tactic| walk_at "nin") => `(tactic| first
  | exact SH.nin_nil
  | (refine SH.nin_cons ?_ ?_; (· walk_at "ne0"); (· walk_at "nin")))
local macro_rules | `(tactic| walk_at "sq") => `(tactic| first
  | assumption
  | (apply L2.SqL.of; (· walk_at "hp"))
  | (apply L2.SqT.of; (· walk_at "hp"))
  | (refine' SH.seqT_new ?gx (by assumption); (case gx => walk_at "sq"))
  | (refine' SH.seqL_new ?gx (by assumption); (case gx => walk_at "sq"))
  | (refine' SH.Off.seqT (by assumption) ?gx; (case gx => walk_at "sq"))
  | (refine' SH.Off.seqL (by assumption) ?gy ?gx; (case gx => walk_at "sq"); (case gy => walk_at "nin")))
local macro_rules | `(tactic| walk_at "kd") => `(tactic| first
  | assumption | exact SH.KdV.int _ | exact SH.KdV.bl _ | exact SH.KdV.str _ | exact SH.KdV.non
  | (apply SH.KdV.tup; (· walk_at "sq")) | (apply SH.KdV.lst; (· walk_at "sq")))
/-- a way that cannot be -/
local macro_rules | `(tactic| walk_at "no") => `(tactic| (exfalso; first | assumption | omega | contradiction | (simp_all; done)))
/-- one step -/
local macro_rules | `(tactic| walk_at "g1") => `(tactic| with_reducible first
  | refine SH.g_var (by with_unfolding_all rfl) ?_ | refine SH.g_c ?_ | refine SH.g_op ?_ | refine SH.g_un ?_ | refine SH.g_I0 ?_ | refine SH.g_U ?_
  | refine SH.g_eqI ?_ | refine SH.g_neI ?_ | refine SH.g_eqS ?_ | refine SH.g_neS ?_
  | refine SH.g_test ?_ | refine SH.g_B ?_ | refine SH.g_isB ?_ | refine SH.g_and ?_ | refine SH.g_or ?_ | refine SH.g_not ?_ | refine SH.g_andV ?_ | refine SH.g_orV ?_ | refine SH.g_notV ?_ | refine SH.g_ifE ?_ | refine SH.g_chain ?_
  | refine SH.g_nil ?_ | refine SH.g_cons ?_ | refine SH.g_tup ?_ | refine SH.g_lst ?_ | refine SH.g_call ?_ | refine SH.g_fld ?_ | refine SH.g_meth ?_ | refine SH.g_make ?_ | refine SH.g_cb ?_ | refine SH.g_bm ?_
  | refine SH.g_seq ?_ | refine SH.g_asg ?_ | refine SH.g_name ?_ | refine SH.g_drop ?_ | refine SH.g_ret ?_ | refine SH.g_retN ?_ | refine SH.g_next ?_ | refine SH.g_brk ?_ | refine SH.g_cnt ?_ | refine SH.g_ifs ?_ | refine SH.g_par ?_ | refine SH.g_par2 ?_ | refine SH.g_fldS ?_ | refine SH.g_raise ?_ | refine SH.g_rs ?_
  | refine SH.g_sub ?_ | refine SH.g_yes ?_ | refine SH.g_sl ?_ | refine SH.g_noPart ?_ | refine SH.g_part ?_ | refine SH.g_intO ?_ | refine SH.g_dget ?_ | refine SH.g_dput ?_ | refine SH.g_forR ?_ | refine SH.g_forL ?_ | refine SH.g_forT ?_ | refine SH.g_lcR ?_ | refine SH.g_lcL ?_ | refine SH.g_lcT ?_ | refine SH.g_gcons ?_ | refine SH.g_gnil ?_
  | refine SH.br_t ?_ | refine SH.br_f ?_
  | refine SH.g_int ?_ | refine SH.g_abs ?_ | refine SH.g_max2 ?_ | refine SH.g_min2 ?_)
local macro_rules | `(tactic| walk_at "g2") => `(tactic| first
  | walk_at "g1"
  | ((with_reducible refine' SH.g_isiInt ?ga ?gz); (case ga => walk_at "kd"))
  | ((with_reducible refine' SH.g_isiBool ?ga ?gz); (case ga => walk_at "kd"))
  | ((with_reducible refine' SH.g_isiStr ?ga ?gz); (case ga => walk_at "kd"))
  | ((with_reducible refine' SH.g_isiTup ?ga ?gz); (case ga => walk_at "kd"))
  | ((with_reducible refine' SH.g_ixT ?ga ?gb ?gz); (case ga => walk_at "sq"); (case gb => rfl))
  | ((with_reducible refine' SH.g_ixL ?ga ?gb ?gz); (case ga => walk_at "sq"); (case gb => first | rfl | (apply SH.atI_refs; assumption)))
  | ((with_reducible refine SH.br_F ?_ ?_); (· decide +kernel)) | ((with_reducible refine SH.br_T ?_ ?_); (· decide +kernel)) | ((with_reducible refine SH.br_NF ?_ ?_); (· decide +kernel)) | ((with_reducible refine SH.br_NT ?_ ?_); (· decide +kernel))
  | ((with_reducible refine' SH.g_gtup ?ga ?gb ?gz); (case ga => walk_at "sq"); (case gb => rfl))
  | ((with_reducible refine' SH.g_lenT ?ga ?gz); (case ga => walk_at "sq"))
  | ((with_reducible refine' SH.g_lenL ?ga ?gz); (case ga => walk_at "sq"))
  | ((with_reducible refine SH.g_mkT (SH.sz rfl) ?_); intro _ _)
  | ((with_reducible refine SH.g_mkL (SH.sz rfl) ?_); intro _ _)
  | ((with_reducible refine SH.g_dnew ?_); intro _ _)
  | ((with_reducible refine' SH.g_tupL ?ga ?gz); (case ga => walk_at "sq"); intro _ _)
  | ((with_reducible refine' SH.g_lstL ?ga ?gz); (case ga => walk_at "sq"); intro _ _)
  | ((with_reducible refine' SH.g_lstT ?ga ?gz); (case ga => walk_at "sq"); intro _ _)
  | ((with_reducible refine' SH.g_dgR ?ga ?gb ?gz); (case ga => walk_at "hp"); (case gb => walk_at "dv"))
  | ((with_reducible refine' SH.g_fldR ?ga ?gb ?gc ?gd ?gz); (case ga => walk_at "hp"); (case gb => walk_at "cl"); (case gc => walk_at "na"); (case gd => walk_at "fv"))
  | ((with_reducible refine' SH.g_insR ?ga ?gb ?gz); (case ga => walk_at "hp"); (case gb => walk_at "fn"))
  | ((with_reducible refine' SH.g_setL ?ga ?gb ?gz); (case ga => walk_at "hp"); (case gb => rfl))
  | ((with_reducible refine SH.g_I ?_ ?_); (· walk_at "ci"))
  | ((with_reducible refine' SH.g_slL ?ga ?gz); (case ga => walk_at "sq"); intro _ _)
  | ((with_reducible refine' SH.g_cat ?ga ?gb ?gc ?gz); (case ga => walk_at "hp"); (case gb => walk_at "hp"); (case gc => walk_at "ls"); intro _ _))
/-- the side conditions of numbers: a divisor, a factor -/
local macro_rules | `(tactic| walk_at "ci") => `(tactic| first
  | (show _ ≠ _; omega) | (show _ < _; omega) | (constructor <;> omega) | (refine Or.inr ⟨?_, ?_⟩ <;> (show _ < _; omega)) | (refine Or.inl ⟨?_, ?_⟩ <;> (show _ < _; omega)) | (refine ⟨?_, ?_, ?_⟩ <;> decide))
local macro_rules | `(tactic| walk_at "ls") => `(tactic| first | (show _ ≤ _; exact Nat.le_trans (by assumption) (by decide)) | (show _ ≤ _; exact Nat.le_trans (by simp; omega) (by decide : 1000 ≤ sizeLine)))
local macro_rules | `(tactic| walk_at "dv") => `(tactic| rfl)
local macro_rules | `(tactic| walk_at "fv") => `(tactic| rfl)
local macro_rules | `(tactic| walk_at "fn") => `(tactic| rfl)
local macro_rules | `(tactic| walk_at "cl") => `(tactic| assumption)
local macro_rules | `(tactic| walk_at "na") => `(tactic| assumption)
local macro_rules | `(tactic| walk_at "go") => `(tactic| repeat walk_at "g2")
/-- a way is split -/
local macro_rules | `(tactic| walk_at "br") => `(tactic| with_reducible first
  | refine SH.br_d (fun _ => ?_) (fun _ => ?_) | refine SH.br_nd (fun _ => ?_) (fun _ => ?_) | refine SH.br_b (fun _ => ?_) (fun _ => ?_))
/-- all ways -/
local macro_rules | `(tactic| walk_at "all") => `(tactic| repeat' first | walk_at "g2" | (walk_at "br" <;> try (walk_at "no")))
/-- a truth value is the other -/
local macro_rules | `(tactic| walk_at "bq") => `(tactic| first | rfl | (simp_all; done) | (simp_all; omega) | (simp only [decide_eq_true_eq, decide_eq_false_iff_not, Bool.and_eq_true, Bool.or_eq_true] at *; omega))
/-- what was tracked is as it was -/
local macro_rules | `(tactic| walk_at "of") => `(tactic| first
  | assumption
  | exact SH.Off.refl _ _
  | (refine' SH.Off.new2 ?gx (by assumption); (case gx => walk_at "of"))
  | (refine' SH.Off.mut ?gx (by assumption); (case gx => walk_at "of"))
  | (refine' SH.Off.trans' ?gx (by assumption) ?gy; (case gy => (intro _ h; (first | exact h | (simp at h; done) | (simp at h ⊢; simp [h]; done)))); (case gx => walk_at "of")))
/-- the law's dice -/
local macro_rules | `(tactic| walk_at "dc") => `(tactic| first
  | assumption
  | (refine' SH.DiceAt.new ?gx (by assumption); (case gx => walk_at "dc"))
  | (refine' SH.DiceAt.off ?gx (by assumption) ?gy; (case gx => walk_at "dc"); (case gy => walk_at "nin")))
local macro_rules | `(tactic| walk_at "g2") => `(tactic| first
  | ((with_reducible refine' SH.g_roll ?ga ?gb ?gc ?gd ?gz); (case ga => walk_at "dc"); (case gb => omega); (case gc => omega); (case gd => omega); intro _ _ _ _ _ _))
namespace SH
open PySem PySem.Spec PyProof.Rows L2 TL NumText
/-! ### a drawn fraction -/
def spFra : Sp := fun vs H Q _ => ∃ a c, vs = [.ref a] ∧ DiceAt H a c ∧ c ≤ 999999000 ∧ ∀ r H' p q, fracZ p q = true → p.natAbs < 10 ^ 18 → q.natAbs < 10 ^ 18 → DiceAt H' a (c + 5) → H' r = some (.tup [.int p, .int q]) → Off [a] H H' → Q (.ref r) H'
theorem fracZ_div {p q : Int} (hq : 0 < q) : fracZ (p / ((Nat.gcd p.natAbs q.toNat : Nat) : Int)) (q / ((Nat.gcd p.natAbs q.toNat : Nat) : Int)) = true := by
  have hg : 0 < Nat.gcd p.natAbs q.toNat := Nat.gcd_pos_of_pos_right _ (by omega)
  have d1 : Nat.gcd p.natAbs q.toNat ∣ p.natAbs := Nat.gcd_dvd_left _ _
  have d2 : Nat.gcd p.natAbs q.toNat ∣ q.toNat := Nat.gcd_dvd_right _ _
  have co : Nat.gcd (p.natAbs / Nat.gcd p.natAbs q.toNat) (q.toNat / Nat.gcd p.natAbs q.toNat) = 1 := by
    rw [Nat.gcd_div d1 d2]
    exact Nat.div_self hg
  generalize Nat.gcd p.natAbs q.toNat = g at *
  have e1 : (p / (g : Int)).natAbs = p.natAbs / g := by
    obtain ⟨k, hk⟩ := d1
    rw [hk, Nat.mul_div_cancel_left _ hg]
    rcases Int.lt_or_le p 0 with h | h
    · have e : p = (g : Int) * (-(k : Int)) := by
        rw [Int.mul_neg, ← Int.natCast_mul, ← hk]
        omega
      rw [e, Int.mul_ediv_cancel_left _ (by omega)]
      omega
    · have e : p = (g : Int) * (k : Int) := by
        rw [← Int.natCast_mul, ← hk]
        omega
      rw [e, Int.mul_ediv_cancel_left _ (by omega)]
      omega
  have e2 : (q / (g : Int)) = ((q.toNat / g : Nat) : Int) := by
    have : q = ((q.toNat : Nat) : Int) := by omega
    rw [Int.natCast_ediv, ← this]
  have e3 : (q / (g : Int)).toNat = q.toNat / g := by rw [e2]; rfl
  have h1 : 0 < q.toNat / g := Nat.div_pos (Nat.le_of_dvd (by omega) d2) hg
  unfold fracZ
  rw [e1, e3, decide_eq_true (show 1 ≤ q / (g : Int) by rw [e2]; exact Int.ofNat_le.mpr h1), decide_eq_true co]
  rfl
theorem natAbs_div_le {p : Int} {g : Nat} (hg : 0 < g) : (p / (g : Int)).natAbs ≤ p.natAbs := by
  rcases Int.lt_or_le p 0 with h | h
  · have h1 : p / (g : Int) ≤ 0 := by
      have := Int.ediv_neg_of_neg_of_pos h (show (0 : Int) < g by omega)
      omega
    have h2 : p ≤ p / (g : Int) := by
      have h3 := Int.mul_ediv_add_emod p (g : Int)
      have h4 := Int.emod_nonneg p (show (g : Int) ≠ 0 by omega)
      have h5 : p * (g : Int) ≤ p * 1 := Int.mul_le_mul_of_nonpos_left (by omega) (by omega)
      exact Int.le_ediv_of_mul_le (by omega) (by omega)
    omega
  · have h1 : 0 ≤ p / (g : Int) := Int.ediv_nonneg h (by omega)
    have h2 : p / (g : Int) ≤ p := Int.ediv_le_self _ h
    omega
section
variable {P : Program} {w : World} {K : PySem.W.Frag} {mg : Str → Option Value} {base : Heap}
theorem ok_law_fraction (T : Txt P w K mg) : DefOk P w K mg base "_law_fraction" 3 ["dice"] spFra := by
  refine T.d_law_fraction.ok sc_law_fraction (fun _ _ _ _ _ _ us hl => match us, hl with | [_], _ => rfl) (fun vs H Q E h => ?_) (fun f cdv A outer s H vs Q E hr h => ?_)
  · obtain ⟨a, c, rfl, _⟩ := h
    rfl
  · obtain ⟨a, c, rfl, hd, hc, k⟩ := h
    have hsz := sizeLine_eq
    have e18 : (10 : Nat) ^ 18 = 1000000000000000000 := by decide +kernel
    have B := T.blt
    have hu := hu_of hr
    have G_law_pick := ok_law_pick (base := base) T
    have G_law_roll := ok_law_roll (base := base) T
    refine ⟨_, (pss_cut (ps_set (i := 1) sc_law_fraction.nd rfl (by first | exact Or.inl rfl | exact Or.inr rfl) (pe_df G_law_pick (hr.mono (by decide)) (L2N.passes_call (L2N.takes_of rfl rfl rfl rfl) fun _ _ _ _ z => z) (pa_cons (pv 0) (pa_cons (pe_lst (pa_cons pe_int (pa_cons pe_int (pa_cons (pe_un un_neg pe_int) (pa_cons pe_int (pa_cons (pe_df G_law_roll (hr.mono (by decide)) (L2N.passes_call (L2N.takes_of rfl rfl rfl rfl) fun _ _ _ _ z => z) (pa_cons (pv 0) (pa_cons pe_int pa_nil))) (pa_cons (pe_un un_neg (pe_df G_law_roll (hr.mono (by decide)) (L2N.passes_call (L2N.takes_of rfl rfl rfl rfl) fun _ _ _ _ z => z) (pa_cons (pv 0) (pa_cons pe_int pa_nil)))) pa_nil))))))) pa_nil))))
  (pss_cut (ps_set (i := 2) sc_law_fraction.nd rfl (by first | exact Or.inl rfl | exact Or.inr rfl) (pe_op op_add pe_int (pe_df G_law_pick (hr.mono (by decide)) (L2N.passes_call (L2N.takes_of rfl rfl rfl rfl) fun _ _ _ _ z => z) (pa_cons (pv 0) (pa_cons (pe_lst (pa_cons pe_int (pa_cons pe_int (pa_cons pe_int (pa_cons (pe_df G_law_roll (hr.mono (by decide)) (L2N.passes_call (L2N.takes_of rfl rfl rfl rfl) fun _ _ _ _ z => z) (pa_cons (pv 0) (pa_cons pe_int pa_nil))) (pa_cons pe_int pa_nil)))))) pa_nil)))))
  (pss_cons (ps_par (i := 3) (j := 4) (by rfl) sc_law_fraction.nd rfl rfl (by decide) rfl rfl (pa_cons (pe_callB c_abs (by rfl) B.b_abs (by decide +kernel) (pa_cons (pv 1) pa_nil)) (pa_cons (pv 2) pa_nil)) (by rfl))
  (pss_cons (ps_while (passes_of rfl) (pt_cmpR op_gt (pv 4) pe_int (nomark _))
    (pss_one (ps_par (i := 3) (j := 4) (by rfl) sc_law_fraction.nd rfl rfl (by decide) rfl rfl (pa_cons (pv 4) (pa_cons (pe_op op_modN (pe_callTy c_int (by rfl) B.b_int (by decide +kernel) (pa_cons (pv 3) pa_nil)) (pv 4)) pa_nil)) (by rfl))))
  (pss_one (ps_ret (pe_tup (pa_cons (pe_op op_fdivW (pv 1) (pv 3)) (pa_cons (pe_op op_fdivW (pv 2) (pv 3)) pa_nil))))))))), ?_⟩
    refine g_cut (fun σ' H' => ∃ p : Int, p.natAbs < 10 ^ 18 ∧ σ' = [some (.ref a), some (.int p), none, none, none] ∧ DiceAt H' a (c + 3) ∧ Off [a] H H') ?_ ?_
    · walk_at "go"
      refine ⟨a, 100, c, rfl, hd, by omega, by decide, by decide, fun r1 H1 r1a r1b d1 o1 => ?_⟩
      walk_at "go"
      refine ⟨a, 100, c + 1, rfl, d1, by omega, by decide, by decide, fun r2 H2 r2a r2b d2 o2 => ?_⟩
      walk_at "go"
      rename_i p hp
      have ha : a ≠ p := by
        rintro rfl
        obtain ⟨x, y, z, e, _⟩ := d2
        rw [hp] at e
        cases e
      refine ⟨a, p, c + 1 + 1, _, rfl, d2.off (Off.new hp) nin_nil, by omega, .of upd_same, by simp, by simp, ha, fun v H3 hv d3 o3 => ?_⟩
      walk_at "go"
      have e : ∃ i : Int, v = .int i ∧ i.natAbs < 10 ^ 18 := by
        simp only [List.mem_cons, List.not_mem_nil, or_false] at hv
        rcases hv with rfl | rfl | rfl | rfl | rfl | rfl
        all_goals exact ⟨_, rfl, by omega⟩
      obtain ⟨i, rfl, hi⟩ := e
      exact ⟨i, hi, rfl, by rw [show c + 3 = c + 1 + 1 + 1 by omega]; exact d3, ((o1.trans o2).trans ((Off.new hp).mono fun _ h => absurd h nin_nil)).trans o3⟩
    rintro σ' H1 ⟨p, hp, rfl, hd1, o1⟩
    refine g_cut (fun σ' H' => ∃ q : Int, 0 < q ∧ q.natAbs < 10 ^ 18 ∧ σ' = [some (.ref a), some (.int p), some (.int q), none, none] ∧ DiceAt H' a (c + 5) ∧ Off [a] H1 H') ?_ ?_
    · walk_at "go"
      refine ⟨a, 60, c + 3, rfl, hd1, by omega, by decide, by decide, fun r1 H2 r1a r1b d1 o2 => ?_⟩
      walk_at "go"
      rename_i p2 hp2
      have ha : a ≠ p2 := by
        rintro rfl
        obtain ⟨x, y, z, e, _⟩ := d1
        rw [hp2] at e
        cases e
      refine ⟨a, p2, c + 3 + 1, _, rfl, d1.off (Off.new hp2) nin_nil, by omega, .of upd_same, by simp, by simp, ha, fun v H3 hv d3 o3 => ?_⟩
      have e : ∃ i : Int, v = .int i ∧ 0 ≤ i ∧ i < 999999999999999999 := by
        simp only [List.mem_cons, List.not_mem_nil, or_false] at hv
        rcases hv with rfl | rfl | rfl | rfl | rfl
        all_goals exact ⟨_, rfl, by omega, by omega⟩
      obtain ⟨i, rfl, hi, hi2⟩ := e
      walk_at "go"
      exact ⟨1 + i, by omega, by omega, rfl, by rw [show c + 5 = c + 3 + 1 + 1 by omega]; exact d3, (o2.trans ((Off.new hp2).mono fun _ h => absurd h nin_nil)).trans o3⟩
    rintro σ' H2 ⟨q, hq, hq2, rfl, hd2, o2⟩
    have ea : (if p < 0 then -p else p) = ((p.natAbs : Nat) : Int) := by split <;> omega
    have ej : q = ((q.toNat : Nat) : Int) := by omega
    walk_at "go"
    refine g_while (fun m σ H' => ∃ x y : Nat, σ = [some (.ref a), some (.int p), some (.int q), some (.int (x : Int)), some (.int (y : Int))] ∧ H' = H2 ∧ Nat.gcd x y = Nat.gcd p.natAbs q.toNat ∧ m = y) q.toNat ⟨p.natAbs, q.toNat, by rw [← ea, ← ej]; rfl, rfl, rfl, rfl⟩ (fun m σ H' hW => ?_)
    obtain ⟨x, _, rfl, rfl, hg, rfl⟩ := hW
    walk_at "go"
    refine br_d (fun c => ?_) (fun c => ?_)
    · refine g_whN ?_
      walk_at "go"
      have e := Int.fmod_eq_emod_of_nonneg (x : Int) (show (0 : Int) ≤ (m : Int) by omega)
      refine ⟨_, _, rfl, x % m, Nat.mod_lt _ (by omega), m, x % m, ?_, rfl, ?_, rfl⟩
      · rw [e, ← Int.natCast_emod]
        rfl
      · rw [← hg, Nat.gcd_comm x m, Nat.gcd_rec m x, Nat.gcd_comm]
    · have : m = 0 := by omega
      subst this
      walk_at "go"
      rw [Nat.gcd_zero_right] at hg
      have hx : 0 < x := by rw [hg]; exact Nat.gcd_pos_of_pos_right _ (by omega)
      have hxq : x ≤ q.toNat := by rw [hg]; exact Nat.gcd_le_right _ (by omega)
      have hcd : ∀ i, CDivW i (x : Int) := fun i => wide_div (b := 60) (by omega) (by
        have : (10 : Nat) ^ 18 < 2 ^ 60 := by decide +kernel
        omega) (by decide) (by decide)
      refine ⟨_, _, rfl, rfl, hcd p, ?_⟩
      walk_at "go"
      refine ⟨_, _, rfl, rfl, hcd q, ?_⟩
      walk_at "go"
      rename_i r hr2
      have l1 := natAbs_div_le (p := p) hx
      have l2 := natAbs_div_le (p := q) hx
      have fz := fracZ_div (p := p) hq
      rw [← hg] at fz
      exact k r _ _ _ fz (by omega) (by omega) (hd2.off (Off.new hr2) nin_nil) upd_same ((o1.trans o2).trans ((Off.new hr2).mono fun _ h => absurd h nin_nil))
end
end SH
end

section
/-! #### the walk's words -/
local macro_rules | `(tactic| walk_at "ne0") => `(tactic| first
  | assumption
  | (refine Ne.symm ?_; assumption))
local macro_rules | `(tactic| walk_at "ne") => `(tactic| first
  | assumption
  | (refine Ne.symm ?_; assumption)
  | (refine' L2.ne_of_none ?gx (by assumption); (case gx => walk_at "hp"))
  | (refine' Ne.symm (L2.ne_of_none ?gx (by assumption)); (case gx => walk_at "hp")))
local macro_rules | `(tactic| walk_at "hp") => `(tactic| first
  | assumption
  | exact L2.upd_same
  | (refine' SH.upd_new ?gh (by assumption); (case gh => walk_at "hp"))
  | (refine' (L2.upd_ne ?gn).trans ?gh; (case gn => walk_at "ne0"); (case gh => walk_at "hp"))
  | (refine' SH.Off.at (by assumption) ?gn ?gh; (case gn => walk_at "nin"); (case gh => walk_at "hp")))
local macro_rules | `(tactic| walk_at "nin") => `(tactic| first
  | exact SH.nin_nil
  | (refine SH.nin_cons ?_ ?_; (· walk_at "ne0"); (· walk_at "nin")))
local macro_rules | `(tactic| walk_at "sq") => `(tactic| first
  | assumption
  | (apply L2.SqL.of; (· walk_at "hp"))
  | (apply L2.SqT.of; (· walk_at "hp"))
  | (refine' SH.seqT_new ?gx (by assumption); (case gx => walk_at "sq"))
  | (refine' SH.seqL_new ?gx (by assumption); (case gx => walk_at "sq"))
  | (refine' SH.Off.seqT (by assumption) ?gx; (case gx => walk_at "sq"))
  | (refine' SH.Off.seqL (by assumption) ?gy ?gx; (case gx => walk_at "sq"); (case gy => walk_at "nin")))
local macro_rules | `(tactic| walk_at "kd") => `(tactic| first
  | assumption | exact SH.KdV.int _ | exact SH.KdV.bl _ | exact SH.KdV.str _ | exact SH.KdV.non
  | (apply SH.KdV.tup; (· walk_at "sq")) | (apply SH.KdV.lst; (· walk_at "sq")))
/-- a way that cannot be -/
local macro_rules | `(tactic| walk_at "no") => `(tactic| (exfalso; first | assumption | omega | contradiction | (simp_all; done)))
/-- one step -/
local macro_rules | `(tactic| walk_at "g1") => `(tactic| with_reducible first
  | refine SH.g_var (by with_unfolding_all rfl) ?_ | refine SH.g_c ?_ | refine SH.g_op ?_ | refine SH.g_un ?_ | refine SH.g_I0 ?_ | refine SH.g_U ?_
  | refine SH.g_eqI ?_ | refine SH.g_neI ?_ | refine SH.g_eqS ?_ | refine SH.g_neS ?_
  | refine SH.g_test ?_ | refine SH.g_B ?_ | refine SH.g_isB ?_ | refine SH.g_and ?_ | refine SH.g_or ?_ | refine SH.g_not ?_ | refine SH.g_andV ?_ | refine SH.g_orV ?_ | refine SH.g_notV ?_ | refine SH.g_ifE ?_ | refine SH.g_chain ?_
  | refine SH.g_nil ?_ | refine SH.g_cons ?_ | refine SH.g_tup ?_ | refine SH.g_lst ?_ | refine SH.g_call ?_ | refine SH.g_fld ?_ | refine SH.g_meth ?_ | refine SH.g_make ?_ | refine SH.g_cb ?_ | refine SH.g_bm ?_
  | refine SH.g_seq ?_ | refine SH.g_asg ?_ | refine SH.g_name ?_ | refine SH.g_drop ?_ | refine SH.g_ret ?_ | refine SH.g_retN ?_ | refine SH.g_next ?_ | refine SH.g_brk ?_ | refine SH.g_cnt ?_ | refine SH.g_ifs ?_ | refine SH.g_par ?_ | refine SH.g_par2 ?_ | refine SH.g_fldS ?_ | refine SH.g_raise ?_ | refine SH.g_rs ?_
  | refine SH.g_sub ?_ | refine SH.g_yes ?_ | refine SH.g_sl ?_ | refine SH.g_noPart ?_ | refine SH.g_part ?_ | refine SH.g_intO ?_ | refine SH.g_dget ?_ | refine SH.g_dput ?_ | refine SH.g_forR ?_ | refine SH.g_forL ?_ | refine SH.g_forT ?_ | refine SH.g_lcR ?_ | refine SH.g_lcL ?_ | refine SH.g_lcT ?_ | refine SH.g_gcons ?_ | refine SH.g_gnil ?_
  | refine SH.br_t ?_ | refine SH.br_f ?_
  | refine SH.g_int ?_ | refine SH.g_abs ?_ | refine SH.g_max2 ?_ | refine SH.g_min2 ?_)
local macro_rules | `(tactic| walk_at "g2") => `(tactic| first
  | walk_at "g1"
  | ((with_reducible refine' SH.g_isiInt ?ga ?gz); (case ga => walk_at "kd"))
  | ((with_reducible refine' SH.g_isiBool ?ga ?gz); (case ga => walk_at "kd"))
  | ((with_reducible refine' SH.g_isiStr ?ga ?gz); (case ga => walk_at "kd"))
  | ((with_reducible refine' SH.g_isiTup ?ga ?gz); (case ga => walk_at "kd"))
  | ((with_reducible refine' SH.g_ixT ?ga ?gb ?gz); (case ga => walk_at "sq"); (case gb => rfl))
  | ((with_reducible refine' SH.g_ixL ?ga ?gb ?gz); (case ga => walk_at "sq"); (case gb => first | rfl | (apply SH.atI_refs; assumption)))
  | ((with_reducible refine SH.br_F ?_ ?_); (· decide +kernel)) | ((with_reducible refine SH.br_T ?_ ?_); (· decide +kernel)) | ((with_reducible refine SH.br_NF ?_ ?_); (· decide +kernel)) | ((with_reducible refine SH.br_NT ?_ ?_); (· decide +kernel))
  | ((with_reducible refine' SH.g_gtup ?ga ?gb ?gz); (case ga => walk_at "sq"); (case gb => rfl))
  | ((with_reducible refine' SH.g_lenT ?ga ?gz); (case ga => walk_at "sq"))
  | ((with_reducible refine' SH.g_lenL ?ga ?gz); (case ga => walk_at "sq"))
  | ((with_reducible refine SH.g_mkT (SH.sz rfl) ?_); intro _ _)
  | ((with_reducible refine SH.g_mkL (SH.sz rfl) ?_); intro _ _)
  | ((with_reducible refine SH.g_dnew ?_); intro _ _)
  | ((with_reducible refine' SH.g_tupL ?ga ?gz); (case ga => walk_at "sq"); intro _ _)
  | ((with_reducible refine' SH.g_lstL ?ga ?gz); (case ga => walk_at "sq"); intro _ _)
  | ((with_reducible refine' SH.g_lstT ?ga ?gz); (case ga => walk_at "sq"); intro _ _)
  | ((with_reducible refine' SH.g_dgR ?ga ?gb ?gz); (case ga => walk_at "hp"); (case gb => walk_at "dv"))
  | ((with_reducible refine' SH.g_fldR ?ga ?gb ?gc ?gd ?gz); (case ga => walk_at "hp"); (case gb => walk_at "cl"); (case gc => walk_at "na"); (case gd => walk_at "fv"))
  | ((with_reducible refine' SH.g_insR ?ga ?gb ?gz); (case ga => walk_at "hp"); (case gb => walk_at "fn"))
  | ((with_reducible refine' SH.g_setL ?ga ?gb ?gz); (case ga => walk_at "hp"); (case gb => rfl))
  | ((with_reducible refine SH.g_I ?_ ?_); (· walk_at "ci"))
  | ((with_reducible refine' SH.g_slL ?ga ?gz); (case ga => walk_at "sq"); intro _ _)
  | ((with_reducible refine' SH.g_cat ?ga ?gb ?gc ?gz); (case ga => walk_at "hp"); (case gb => walk_at "hp"); (case gc => walk_at "ls"); intro _ _))
/-- the side conditions of numbers: a divisor, a factor -/
local macro_rules | `(tactic| walk_at "ci") => `(tactic| first
  | (show _ ≠ _; omega) | (show _ < _; omega) | (constructor <;> omega) | (refine Or.inr ⟨?_, ?_⟩ <;> (show _ < _; omega)) | (refine Or.inl ⟨?_, ?_⟩ <;> (show _ < _; omega)) | (refine ⟨?_, ?_, ?_⟩ <;> decide))
local macro_rules | `(tactic| walk_at "ls") => `(tactic| first | (show _ ≤ _; exact Nat.le_trans (by assumption) (by decide)) | (show _ ≤ _; exact Nat.le_trans (by simp; omega) (by decide : 1000 ≤ sizeLine)))
local macro_rules | `(tactic| walk_at "dv") => `(tactic| rfl)
local macro_rules | `(tactic| walk_at "fv") => `(tactic| rfl)
local macro_rules | `(tactic| walk_at "fn") => `(tactic| rfl)
local macro_rules | `(tactic| walk_at "cl") => `(tactic| assumption)
local macro_rules | `(tactic| walk_at "na") => `(tactic| assumption)
local macro_rules | `(tactic| walk_at "go") => `(tactic| repeat walk_at "g2")
/-- a way is split -/
local macro_rules | `(tactic| walk_at "br") => `(tactic| with_reducible first
  | refine SH.br_d (fun _ => ?_) (fun _ => ?_) | refine SH.br_nd (fun _ => ?_) (fun _ => ?_) | refine SH.br_b (fun _ => ?_) (fun _ => ?_))
/-- all ways -/
local macro_rules | `(tactic| walk_at "all") => `(tactic| repeat' first | walk_at "g2" | (walk_at "br" <;> try (walk_at "no")))
/-- a truth value is the other -/
local macro_rules | `(tactic| walk_at "bq") => `(tactic| first | rfl | (simp_all; done) | (simp_all; omega) | (simp only [decide_eq_true_eq, decide_eq_false_iff_not, Bool.and_eq_true, Bool.or_eq_true] at *; omega))
/-- what was tracked is as it was -/
local macro_rules | `(tactic| walk_at "of") => `(tactic| first
  | assumption
  | exact SH.Off.refl _ _
  | (refine' SH.Off.new2 ?gx (by assumption); (case gx => walk_at "of"))
  | (refine' SH.Off.mut ?gx (by assumption); (case gx => walk_at "of"))
  | (refine' SH.Off.trans' ?gx (by assumption) ?gy; (case gy => (intro _ h; (first | exact h | (simp at h; done) | (simp at h ⊢; simp [h]; done)))); (case gx => walk_at "of")))
/-- texts -/
local macro_rules | `(tactic| walk_at "g2") => `(tactic| first
  | (with_reducible first | refine SH.br_ntt ?_ | refine SH.br_ntf ?_ | refine SH.br_k ?_ | refine SH.br_nk ?_ | refine SH.g_lcS ?_ | refine SH.g_leS ?_ | refine SH.g_niS ?_ | refine SH.g_strS ?_ | refine SH.g_tM1 ?_ | refine SH.g_isStr ?_ | refine SH.g_enL ?_ | refine SH.g_star ?_)
  | ((with_reducible refine SH.g_slS ?_ ?_); (· omega))
  | ((with_reducible refine SH.g_lenS ?_ ?_); (· omega))
  | ((with_reducible refine' SH.g_bml ?ga ?gz); (case ga => walk_at "sq")))
namespace SH
open PySem PySem.Spec PyProof.Rows L2 LamX TL NumText
def spRightC (P0 : Addr) : Sp := fun vs H Q _ => ∃ (a : Addr) (c : Int), vs = [.ref a] ∧ DiceAt H a c ∧ c ≤ 100000 ∧ TabS H P0 qR ∧ ∀ H', Off [a, P0] H H' → TabS H' P0 qR → Q (.bl true) H'
/-- a step that is one -/
def StV (K : PySem.W.Frag) (H : Hp) (v : V) : Prop := ∃ q ys, v = .ref q ∧ SqT K H q ys ∧ Vld ys
theorem StV.off {K : PySem.W.Frag} {H H' : Hp} {S : List Addr} {v : V} (h : StV K H v) (o : Off S H H') : StV K H' v := by
  obtain ⟨q, ys, e, s, w⟩ := h
  exact ⟨q, ys, e, o.seqT s, w⟩
/-- a course as data -/
def crsD (yss : List (List V)) : PyData := .tuple (yss.map fun ys => .tuple (ys.map dat2))
def CrsA (K : PySem.W.Frag) (H : Hp) (x : V) (ys : List V) : Prop := ∃ q, x = V.ref q ∧ SqT K H q ys
theorem crs_dpA {K : PySem.W.Frag} {H : Hp} : ∀ {xs : List V} {yss : List (List V)}, Paired (CrsA K H) xs yss → (∀ ys ∈ yss, Vld ys) → DpAll K H xs (yss.map fun ys => .tuple (ys.map dat2))
  | _, _, .nil, _ => .nil
  | _, _, .cons r t, h => by
    obtain ⟨q, e, hq⟩ := r
    subst e
    exact .cons (.tup hq (fl_dpAll (vld_ok (h _ List.mem_cons_self)).2)) (crs_dpA t fun ys hy => h ys (List.mem_cons_of_mem _ hy))
theorem crs_dp {K : PySem.W.Frag} {H : Hp} {t : Addr} {xs : List V} {yss : List (List V)} (ht : SqT K H t xs) (hp : Paired (CrsA K H) xs yss) (h : ∀ ys ∈ yss, Vld ys) : Dp K H (.ref t) (crsD yss) := .tup ht (crs_dpA hp h)
theorem crs_sw {yss : List (List V)} (h : ∀ ys ∈ yss, Vld ys) : Sw (crsD yss) (201 * yss.length) 2 := by
  have := SwL.all (ds := yss.map fun ys => PyData.tuple (ys.map dat2)) (n := 200) (k := 1) fun d hd => by
    obtain ⟨ys, hy, rfl⟩ := List.mem_map.mp hd
    exact vld_sw (h ys hy)
  rw [List.length_map] at this
  exact this.tup
theorem Sw.shaped {d : PyData} {n k : Nat} (h : Sw d n k) (hk : k ≤ 64) : SeqAt.shaped d = true := by
  unfold SeqAt.shaped
  rw [Bool.and_eq_true, decide_eq_true_eq]
  exact ⟨h.lay, Nat.le_trans h.dep hk⟩
theorem Sw.refl {d : PyData} {n k : Nat} (h : Sw d n k) : PyData.eqv d d = true := PySem.SeqAt.eqv_refl _ h.lay
theorem crs_read {K : PySem.W.Frag} {H : Hp} : ∀ {xs : List V} {ls : List Str}, Paired (fun x l => ∃ q, x = V.ref q ∧ H q = some (.tup (stepL l))) xs ls → Paired (CrsA K H) xs (ls.map stepL)
  | _, _, .nil => .nil
  | _, _, .cons r t => by
    obtain ⟨q, e, hq⟩ := r
    exact .cons ⟨q, e, .of hq⟩ (crs_read t)
theorem show_plt {p : Int} (h : p.natAbs < 10 ^ 18) : PlT (showZ p) 19 := by
  have hl := numL_len18 h
  have hd := numL_digits p.natAbs
  rcases Int.lt_or_le p 0 with h0 | h0
  · have e : p = -((p.natAbs : Nat) : Int) := by omega
    have e2 : tl (showZ p) = 45 :: numL p.natAbs := by
      rw [e, tl_show_neg (by omega)]
      simp
    refine ⟨by rw [len_tl, e2, List.length_cons]; omega, fun c hc => ?_⟩
    rw [e2] at hc
    rcases List.mem_cons.mp hc with rfl | hc
    · decide
    · have := hd c hc
      omega
  · have e : p = ((p.natAbs : Nat) : Int) := by omega
    have e2 : tl (showZ p) = numL p.natAbs := by
      rw [e, tl_show_nat]
      simp
    refine ⟨by rw [len_tl, e2]; omega, fun c hc => ?_⟩
    rw [e2] at hc
    have := hd c hc
    omega
theorem wr_plt {p q : Int} (hp : p.natAbs < 10 ^ 18) (hq : q.natAbs < 10 ^ 18) : PlT (wrF p q) 300 := by
  unfold wrF
  split
  · exact (show_plt hp).mono (by decide)
  · exact (((show_plt hp).app (sg1 (by kernel_rfl))).app (show_plt hq)).mono (by decide)
/-- read_course as _law_met has it -/
theorem g_readC {K : PySem.W.Frag} {H : Hp} {Q : VK} {z : Str} (hz : PlT z 4000) (q : ∀ H' r, Off [] H H' → Fz K H' (.ref r) (rdD z) → Q (.ref r) H') : spReadC K [.str z] H (fun v H' => mkT [.str "read", v] H' Q) (metE (He.ga K "BadText") Q) := by
  refine ⟨_, rfl, .inl ⟨z, rfl, hz, fun hb H' p xs e pr o => ?_, fun k hk H' o => ?_⟩⟩
  · refine ⟨by rw [sizeLine_eq]; simp, fun r hr => ?_⟩
    refine q _ r (o.new2 hr) ?_
    unfold rdD
    rw [hb]
    refine Fz.tup upd_same (.cons (Fz.str _) (.cons (Fz.tup (upd_new e hr) (steps_fz (Paired.mapP pr fun x l hx => ?_) fun l hl => step_flat (lines_ok hz l hl))) .nil))
    obtain ⟨q0, e0, h0⟩ := hx
    exact ⟨q0, e0, .of (upd_new h0 hr)⟩
  · exact g_metE fun p H'' e o2 => q H'' p (o.trans o2) (by unfold rdD; rw [hk]; exact Fz.tup e (.cons (Fz.str _) (.cons (Fz.int _) .nil)))
theorem g_readFr {K : PySem.W.Frag} {H : Hp} {Q : VK} {z : Str} (hz : PlT z 4000) (q : ∀ H' r, Off [] H H' → Fz K H' (.ref r) (fdD z) → Q (.ref r) H') : spReadF K [.str z] H (fun v H' => mkT [.str "read", v] H' Q) (metE (He.ga K "BadText") Q) := by
  refine ⟨_, rfl, .inl ⟨z, rfl, hz, fun p q' e H' t et o => ?_, fun e H' o => ?_⟩⟩
  · refine ⟨by rw [sizeLine_eq]; simp, fun r hr => ?_⟩
    refine q _ r (o.new2 hr) ?_
    rw [read_due] at e
    unfold fdD
    rw [e]
    exact Fz.tup upd_same (.cons (Fz.str _) (.cons (Fz.tup (upd_new et hr) (.cons (Fz.int _) (.cons (Fz.int _) .nil))) .nil))
  · rw [read_due] at e
    exact g_metE fun p H'' e2 o2 => q H'' p (o.trans o2) (by unfold fdD; rw [e]; exact Fz.tup e2 (.cons (Fz.str _) (.cons (Fz.int _) .nil)))
/-- what stands in a value that is no course -/
def ElB (K : PySem.W.Frag) (H : Hp) (x : V) (b : Bool) : Prop := (flB x = true ∧ b = false) ∨ ∃ q ys, x = .ref q ∧ SqT K H q ys ∧ ys.all flB = true ∧ b = stepB ys 5
theorem ElB.off {K : PySem.W.Frag} {H H' : Hp} {S : List Addr} {x : V} {b : Bool} (h : ElB K H x b) (o : Off S H H') : ElB K H' x b := by
  rcases h with h | ⟨q, ys, e, h, r⟩
  · exact .inl h
  · exact .inr ⟨q, ys, e, o.seqT h, r⟩
theorem ElB.st {K : PySem.W.Frag} {H : Hp} {x : V} {b : Bool} (h : ElB K H x b) : StB K H x b := by
  rcases h with ⟨h, r⟩ | ⟨q, ys, e, h, r⟩
  · exact .inr ⟨_, .flat h, (by cases x <;> simp [kdF]), r⟩
  · exact .inl ⟨q, ys, e, h, r⟩
/-- a value that is neither a course nor a fraction that can be written -/
def OddC (K : PySem.W.Frag) (H : Hp) (v : V) : Prop := (∃ kd, KdV K H v kd ∧ kd ≠ .tup) ∨ ∃ t xs bs, v = .ref t ∧ SqT K H t xs ∧ Paired (ElB K H) xs bs ∧ xs.length ≤ 5000 ∧ bs.all id = false ∧ (xs.length = 2 → xs.all flB = true) ∧ (fracB xs = false ∨ ∃ p q : Int, xs = [.int p, .int q] ∧ (10 ^ 18 ≤ p.natAbs ∨ 10 ^ 18 ≤ q.natAbs))
theorem OddC.off_ {K : PySem.W.Frag} {H H' : Hp} {S : List Addr} {v : V} (h : OddC K H v) (o : Off S H H') (hk : ∀ kd, KdV K H v kd → KdV K H' v kd) : OddC K H' v := by
  rcases h with ⟨kd, h, n⟩ | ⟨t, xs, bs, e, ht, hp, r⟩
  · exact .inl ⟨kd, hk kd h, n⟩
  · exact .inr ⟨t, xs, bs, e, o.seqT ht, Paired.mapP hp fun _ _ z => z.off o, r⟩
theorem OddC.nil {K : PySem.W.Frag} {H H' : Hp} {v : V} (h : OddC K H v) (o : Off [] H H') : OddC K H' v := h.off_ o fun _ k => k.off o (fun _ _ _ _ => nin_nil)
theorem odd_wrC {K : PySem.W.Frag} {H : Hp} {v : V} {Q : VK} {E : XK} (h : OddC K H v) (q : ∀ H', Off [] H H' → RaiseW (He.ga K "BadArgument") "name" (.str "steps") H' E) : spWrC K [v] H Q E := by
  rcases h with ⟨kd, h, n⟩ | ⟨t, xs, bs, e, ht, hp, hl, hb, _⟩
  · exact ⟨v, rfl, .inr (.inr ⟨kd, h, n, q H (.refl _ _)⟩)⟩
  · exact ⟨v, rfl, .inr (.inl ⟨t, xs, bs, e, ht, Paired.mapP hp fun _ _ z => z.st, hl, hb, q⟩)⟩
theorem odd_wrF {K : PySem.W.Frag} {H : Hp} {v : V} {Q : VK} {E : XK} (h : OddC K H v) (q : RaiseW (He.ga K "BadArgument") "name" (.str "fraction") H E) : spWrF K [v] H Q E := by
  rcases h with ⟨kd, h, n⟩ | ⟨t, xs, bs, e, ht, hp, hl, hb, hf, hg⟩
  · exact ⟨v, rfl, .inr (.inr ⟨kd, h, n, q⟩)⟩
  · exact ⟨v, rfl, .inr (.inl ⟨t, xs, e, ht, hf, hg, q⟩)⟩
theorem g_readCb {K : PySem.W.Frag} {H : Hp} {Q : VK} {M : VK} {v : V} {kd : Kd} (hk : KdV K H v kd) (nk : kd ≠ .str) (q : ∀ H' r, Off [] H H' → H' r = some (.tup [.str "bad", .int 0]) → Q (.ref r) H') : spReadC K [v] H M (metE (He.ga K "BadText") Q) :=
  ⟨v, rfl, .inr (.inr ⟨kd, hk, nk, fun H' o => g_metE fun p H'' e o2 => q H'' p (o.trans o2) e⟩)⟩
theorem g_readFb {K : PySem.W.Frag} {H : Hp} {Q : VK} {M : VK} {v : V} {kd : Kd} (hk : KdV K H v kd) (nk : kd ≠ .str) (q : ∀ H' r, Off [] H H' → H' r = some (.tup [.str "bad", .int 0]) → Q (.ref r) H') : spReadF K [v] H M (metE (He.ga K "BadText") Q) :=
  ⟨v, rfl, .inr ⟨kd, hk, nk, fun H' o => g_metE fun p H'' e o2 => q H'' p (o.trans o2) e⟩⟩
theorem log18 {p : Int} (h : p.natAbs < 10 ^ 18) : p.natAbs.log2 < 1920 := by
  by_cases z : p.natAbs = 0
  · rw [z]; decide
  · have : p.natAbs.log2 < 60 := (Nat.log2_lt z).mpr (Nat.lt_trans h (by decide +kernel))
    omega
local macro_rules | `(tactic| walk_at "g2") => `(tactic| with_reducible first | refine SH.g_kw ?_ | refine SH.g_kwR rfl ?_)
section
variable {P : Program} {w : World} {K : PySem.W.Frag} {mg : Str → Option Value} {base : Heap}
theorem okG_law_right (T : Txt P w K mg) {cR P0 : Addr} (hR : CodeOf K mg "_law_right" cR) (TB : TabB base mg cR P0) : DefGX (L2N.CX P w) P w K mg base "_law_right" 8 ["dice"] (spRightC P0) := by
  refine T.d_law_right.okGX sc_law_right (fun _ _ _ _ _ _ us hl => match us, hl with | [_], _ => rfl) (fun vs H Q E h => ?_) (fun f cdv A outer s H vs Q E hcv hg hr h => ?_)
  · obtain ⟨a, c, rfl, _⟩ := h
    rfl
  · obtain ⟨a, c, rfl, hd, hc, t0, q⟩ := h
    have hsz := sizeLine_eq
    have hcv' := hcv cR hR
    subst hcv'
    have B := T.blt
    have hu := hu_of hr
    have G_law_fraction := ok_law_fraction (base := base) T
    have G_law_pick := ok_law_pick (base := base) T
    have G_write_course := ok_write_course (base := base) T
    have L_write_course := okL_write_course (base := base) T
    have G_write_fraction := ok_write_fraction (base := base) T
    obtain ⟨gM, cdM, GM⟩ := gets_met T
    have G_law_roll := ok_law_roll (base := base) T
    have G_read_course := ok_read_course (base := base) T
    have L_read_course := okL_read_course (base := base) T
    have G_read_fraction := ok_read_fraction (base := base) T
    have L_read_fraction := okL_read_fraction (base := base) T
    have G_law_bent := ok_law_bent (base := base) T
    have G_law_course_due := ok_law_course_due (base := base) T
    have G_law_fraction_due := ok_law_fraction_due (base := base) T
    obtain ⟨gR, cdR, GR⟩ := gets_refused T
    have L_write_fraction := okL_write_fraction (base := base) T
    refine ⟨_, (pss_cons (ps_set (i := 1) sc_law_right.nd rfl (by first | exact Or.inl rfl | exact Or.inr rfl) (pe_lst (pa_cons (pe_tup (pa_cons pe_str pa_nil)) (pa_cons (pe_tup (pa_cons pe_str (pa_cons (pe_df G_law_roll (hr.mono (by decide)) (L2N.passes_call (L2N.takes_of rfl rfl rfl rfl) fun _ _ _ _ z => z) (pa_cons (pv 0) (pa_cons pe_int pa_nil))) pa_nil))) (pa_cons (pe_tup (pa_cons pe_str (pa_cons pe_int pa_nil))) (pa_cons (pe_tup (pa_cons pe_str (pa_cons (pe_df G_law_roll (hr.mono (by decide)) (L2N.passes_call (L2N.takes_of rfl rfl rfl rfl) fun _ _ _ _ z => z) (pa_cons (pv 0) (pa_cons pe_int pa_nil))) (pa_cons (pe_op op_add pe_int (pe_df G_law_roll (hr.mono (by decide)) (L2N.passes_call (L2N.takes_of rfl rfl rfl rfl) fun _ _ _ _ z => z) (pa_cons (pv 0) (pa_cons pe_int pa_nil)))) pa_nil)))) pa_nil))))))
  (pss_cons (ps_expr (pe_bmK (K := K) rfl PySem.F.plainAttrs_list PySem.F.slot_list_append PySem.F.type_list_append mt_append (pv 1) (pa_cons (pe_tup (pa_cons pe_str (pa_cons pe_int (pa_cons (pe_op op_add pe_int (pe_df G_law_roll (hr.mono (by decide)) (L2N.passes_call (L2N.takes_of rfl rfl rfl rfl) fun _ _ _ _ z => z) (pa_cons (pv 0) (pa_cons pe_int pa_nil)))) (pa_cons (pe_df G_law_pick (hr.mono (by decide)) (L2N.passes_call (L2N.takes_of rfl rfl rfl rfl) fun _ _ _ _ z => z) (pa_cons (pv 0) (pa_cons (pe_lst (pa_cons pe_int (pa_cons pe_int (pa_cons (pe_op op_add pe_int (pe_df G_law_roll (hr.mono (by decide)) (L2N.passes_call (L2N.takes_of rfl rfl rfl rfl) fun _ _ _ _ z => z) (pa_cons (pv 0) (pa_cons pe_int pa_nil)))) pa_nil)))) pa_nil))) pa_nil))))) pa_nil)))
  (pss_cons (ps_set (i := 3) sc_law_right.nd rfl (by first | exact Or.inl rfl | exact Or.inr rfl) (pe_callTy (c_tupK (K := K) rfl) (by rfl) B.b_tuple (by decide +kernel) (pa_cons (pe_lc (own := [("turn", 2)]) rfl sc_law_right.nd (pi_range1 rfl B.b_range (pa_cons (pe_df G_law_roll (hr.mono (by decide)) (L2N.passes_call (L2N.takes_of rfl rfl rfl rfl) fun _ _ _ _ z => z) (pa_cons (pv 0) (pa_cons pe_int pa_nil))) pa_nil)) (blkOk_by (own := [("turn", 2)]) (N := ["dice", "kinds", "turn", "steps", "fraction", "one", "two", "told", "bad", "odd", "other", "some", "step", "part"]) (sc := defScope s_law_right) (by decide +kernel)) (fun _ _ _ _ _ => (pg_name (i := 2) sc_law_right.nd rfl (by first | exact Or.inl rfl | exact Or.inr rfl))) (fun _ _ _ _ _ => pts_nil) (fun _ _ _ _ _ => (pe_df G_law_pick (hr.mono (by decide)) passN (pa_cons (pv 0) (pa_cons (pv 1) pa_nil))))) pa_nil)))
  (pss_cons (ps_set (i := 4) sc_law_right.nd rfl (by first | exact Or.inl rfl | exact Or.inr rfl) (pe_df G_law_fraction (hr.mono (by decide)) (L2N.passes_call (L2N.takes_of rfl rfl rfl rfl) fun _ _ _ _ z => z) (pa_cons (pv 0) pa_nil)))
  (pss_cons (ps_par (i := 5) (j := 6) (by rfl) sc_law_right.nd rfl rfl (by decide) rfl rfl (pa_cons (pe_dfK0 (ks := ["steps"]) (g := id) (gV := id) L_write_course T.d_write_course (fun _ _ _ _ _ _ us hl => match us, hl with | [_], _ => rfl) (fun r l => rel_id r l) (hr.mono (by decide)) (L2N.passes_call (L2N.takes_of rfl rfl rfl rfl) fun _ _ _ _ z => z) (pk_cons (pv 3) pk_nil)) (pa_cons (pe_df G_write_fraction (hr.mono (by decide)) (L2N.passes_call (L2N.takes_of rfl rfl rfl rfl) fun _ _ _ _ z => z) (pa_cons (pv 4) pa_nil)) pa_nil)) (by rfl))
  (pss_cut (ps_if (PW.pt (pw_or (pt_cmpR op_ne (pv 5) (pe_joinS (K := K) rfl pe_str (pe_lc (own := [("step", 12)]) rfl sc_law_right.nd (pi_tupK (K := K) rfl (pv 3)) (blkOk_by (own := [("step", 12)]) (N := ["dice", "kinds", "turn", "steps", "fraction", "one", "two", "told", "bad", "odd", "other", "some", "step", "part"]) (sc := defScope s_law_right) (by decide +kernel)) (fun _ _ _ _ _ => (pg_name (i := 12) sc_law_right.nd rfl (by first | exact Or.inl rfl | exact Or.inr rfl))) (fun _ _ _ _ _ => pts_nil) (fun _ _ _ _ _ => (pe_joinS (K := K) rfl pe_str (pe_lc (own := [("part", 13)]) rfl sc_law_right.nd (pi_tupK (K := K) rfl (pv 12)) (blkOk_by (own := [("part", 13)]) (N := ["dice", "kinds", "turn", "steps", "fraction", "one", "two", "told", "bad", "odd", "other", "some", "step", "part"]) (sc := ⟨.function, [(Str.ofString ".0", .local), (Str.ofString "step", .local)], false, false, []⟩) (by decide +kernel)) (fun _ _ _ _ _ => (pg_name (i := 13) sc_law_right.nd rfl (by first | exact Or.inl rfl | exact Or.inr rfl))) (fun _ _ _ _ _ => pts_nil) (fun _ _ _ _ _ => (pe_callTy c_strA (by rfl) B.b_str (by decide +kernel) (pa_cons (pv 13) pa_nil)))))))) (nomark _)) (pw_or (pt_cmpR (op_neDK (K := K) rfl hr.units) (pe_df G_read_course (hr.mono (by decide)) (L2N.passes_call (L2N.takes_of rfl rfl rfl rfl) fun _ _ _ _ z => z) (pa_cons (pv 5) pa_nil)) (pv 3) (nomark _)) (pw_or1 (pt_cmpR (op_neDK (K := K) rfl hr.units) (pe_dfK0 (ks := ["text"]) (g := id) (gV := id) L_read_course T.d_read_course (fun _ _ _ _ _ _ us hl => match us, hl with | [_], _ => rfl) (fun r l => rel_id r l) (hr.mono (by decide)) (L2N.passes_call (L2N.takes_of rfl rfl rfl rfl) fun _ _ _ _ z => z) (pk_cons (pv 5) pk_nil)) (pv 3) (nomark _))))))
    (pss_one (ps_ret pe_bl))
    pss_nil)
  (pss_cut (ps_if (PW.pt (pw_or (pt_cmpR op_ne (pv 6) (pe_ifExp (pt_cmpR op_eq (pe_ix (ix_tupK (K := K) rfl) (pv 4) pe_int (fun _ _ => rfl)) pe_int (nomark _)) (pe_callTy c_strA (by rfl) B.b_str (by decide +kernel) (pa_cons (pe_ix (ix_tupK (K := K) rfl) (pv 4) pe_int (fun _ _ => rfl)) pa_nil)) (pe_op op_addS (pe_op op_addS (pe_callTy c_strA (by rfl) B.b_str (by decide +kernel) (pa_cons (pe_ix (ix_tupK (K := K) rfl) (pv 4) pe_int (fun _ _ => rfl)) pa_nil)) pe_str) (pe_callTy c_strA (by rfl) B.b_str (by decide +kernel) (pa_cons (pe_ix (ix_tupK (K := K) rfl) (pv 4) pe_int (fun _ _ => rfl)) pa_nil)))) (nomark _)) (pw_or1 (pt_cmpR (op_neDK (K := K) rfl hr.units) (pe_dfK0 (ks := ["text"]) (g := id) (gV := id) L_read_fraction T.d_read_fraction (fun _ _ _ _ _ _ us hl => match us, hl with | [_], _ => rfl) (fun r l => rel_id r l) (hr.mono (by decide)) (L2N.passes_call (L2N.takes_of rfl rfl rfl rfl) fun _ _ _ _ z => z) (pk_cons (pv 6) pk_nil)) (pv 4) (nomark _)))))
    (pss_one (ps_ret pe_bl))
    pss_nil)
  (pss_cut (ps_for (passes_of rfl) rfl (pi_range1 rfl B.b_range (pa_cons pe_int pa_nil)) (pg_name (i := 2) sc_law_right.nd rfl (by first | exact Or.inl rfl | exact Or.inr rfl))
    (pss_cons (ps_asg (pe_tup (pa_cons (pe_df G_law_bent (hr.mono (by decide)) (L2N.passes_call (L2N.takes_of rfl rfl rfl rfl) fun _ _ _ _ z => z) (pa_cons (pv 0) (pa_cons (pv 5) pa_nil))) (pa_cons (pe_df G_law_bent (hr.mono (by decide)) (L2N.passes_call (L2N.takes_of rfl rfl rfl rfl) fun _ _ _ _ z => z) (pa_cons (pv 0) (pa_cons (pv 6) pa_nil))) pa_nil))) (pg_tupK (K := K) (n := 2) rfl rfl (pgs_cons (pg_name (i := 11) sc_law_right.nd rfl (by first | exact Or.inl rfl | exact Or.inr rfl)) (pgs_cons (pg_name (i := 10) sc_law_right.nd rfl (by first | exact Or.inl rfl | exact Or.inr rfl)) pgs_nil))))
  (pss_cons (ps_if (pt_cmpR op_ne (pe_callB (call_reprH (K := K) rfl hg hr.units) (by rfl) B.b_repr (by decide +kernel) (pa_cons (pe_lam1 (P := P0) (k := 5) (q := qR) (hq := by kernel_rfl) GM (met_gives T) TB rfl (hr.mono (by decide)) (LamX.lamS_by (by kernel_rfl)) (fun A outer s H E f c' hr => (pe_df G_read_course (hr.mono (by decide)) (L2N.passes_call (takes_down (L2.takes_of rfl rfl rfl rfl)) fun _ _ _ _ z => z) (pa_cons (pv 11) pa_nil)))) pa_nil)) (pe_callB (call_reprH (K := K) rfl hg hr.units) (by rfl) B.b_repr (by decide +kernel) (pa_cons (pe_df G_law_course_due (hr.mono (by decide)) (L2N.passes_call (L2N.takes_of rfl rfl rfl rfl) fun _ _ _ _ z => z) (pa_cons (pv 11) pa_nil)) pa_nil)) (nomark _))
    (pss_one (ps_ret pe_bl))
    pss_nil)
  (pss_one (ps_if (pt_cmpR op_ne (pe_callB (call_reprH (K := K) rfl hg hr.units) (by rfl) B.b_repr (by decide +kernel) (pa_cons (pe_lam1 (P := P0) (k := 5) (q := qR) (hq := by kernel_rfl) GM (met_gives T) TB rfl (hr.mono (by decide)) (LamX.lamS_by (by kernel_rfl)) (fun A outer s H E f c' hr => (pe_df G_read_fraction (hr.mono (by decide)) (L2N.passes_call (takes_down (L2.takes_of rfl rfl rfl rfl)) fun _ _ _ _ z => z) (pa_cons (pv 10) pa_nil)))) pa_nil)) (pe_callB (call_reprH (K := K) rfl hg hr.units) (by rfl) B.b_repr (by decide +kernel) (pa_cons (pe_df G_law_fraction_due (hr.mono (by decide)) (L2N.passes_call (L2N.takes_of rfl rfl rfl rfl) fun _ _ _ _ z => z) (pa_cons (pv 10) pa_nil)) pa_nil)) (nomark _))
    (pss_one (ps_ret pe_bl))
    pss_nil)))))
  (pss_cut (ps_asg (pe_tup (pa_cons (pe_df G_law_pick (hr.mono (by decide)) (L2N.passes_call (L2N.takes_of rfl rfl rfl rfl) fun _ _ _ _ z => z) (pa_cons (pv 0) (pa_cons (pe_lst (pa_cons pe_non (pa_cons pe_int (pa_cons (pe_tup pa_nil) (pa_cons (pe_lst (pa_cons pe_str pa_nil)) (pa_cons pe_bl pa_nil)))))) pa_nil))) (pa_cons (pe_lst (pa_cons pe_non (pa_cons (pe_callTy (c_lstK (K := K) rfl) (by rfl) B.b_list (by decide +kernel) (pa_cons (pv 3) pa_nil)) (pa_cons (pe_tup (pa_cons pe_non pa_nil)) (pa_cons (pe_tup (pa_cons (pe_tup (pa_cons pe_str (pa_cons pe_int pa_nil))) pa_nil)) (pa_cons (pe_tup (pa_cons pe_int (pa_cons pe_int pa_nil))) (pa_cons (pe_tup (pa_cons pe_int (pa_cons pe_int pa_nil))) (pa_cons (pe_tup (pa_cons pe_int (pa_cons (pe_un un_neg pe_int) pa_nil))) pa_nil)))))))) pa_nil))) (pg_tupK (K := K) (n := 2) rfl rfl (pgs_cons (pg_name (i := 8) sc_law_right.nd rfl (by first | exact Or.inl rfl | exact Or.inr rfl)) (pgs_cons (pg_name (i := 9) sc_law_right.nd rfl (by first | exact Or.inl rfl | exact Or.inr rfl)) pgs_nil))))
  (pss_cut (ps_set (i := 9) sc_law_right.nd rfl (by first | exact Or.inl rfl | exact Or.inr rfl) (pe_df G_law_pick (hr.mono (by decide)) (L2N.passes_call (L2N.takes_of rfl rfl rfl rfl) fun _ _ _ _ z => z) (pa_cons (pv 0) (pa_cons (pe_op op_cat (pv 9) (pe_lst (pa_cons (pe_tup (pa_cons pe_int (pa_cons pe_int pa_nil))) (pa_cons (pe_tup (pa_cons pe_int (pa_cons pe_int (pa_cons pe_int pa_nil)))) pa_nil)))) pa_nil))))
  (pss_cut (ps_set (i := 7) sc_law_right.nd rfl (by first | exact Or.inl rfl | exact Or.inr rfl) (pe_lst (pa_cons (pe_lam1 (P := P0) (k := 5) (q := qR) (hq := by kernel_rfl) GM (met_gives T) TB rfl (hr.mono (by decide)) (LamX.lamS_by (by kernel_rfl)) (fun A outer s H E f c' hr => (pe_df G_read_course (hr.mono (by decide)) (L2N.passes_call (takes_down (L2.takes_of rfl rfl rfl rfl)) fun _ _ _ _ z => z) (pa_cons (pv 8) pa_nil)))) (pa_cons (pe_lam1 (P := P0) (k := 5) (q := qR) (hq := by kernel_rfl) GM (met_gives T) TB rfl (hr.mono (by decide)) (LamX.lamS_by (by kernel_rfl)) (fun A outer s H E f c' hr => (pe_df G_read_fraction (hr.mono (by decide)) (L2N.passes_call (takes_down (L2.takes_of rfl rfl rfl rfl)) fun _ _ _ _ z => z) (pa_cons (pv 8) pa_nil)))) pa_nil))))
  (pss_one (ps_ret (pe_and (pe_cmpR (op_eqDK (K := K) rfl hr.units) (pv 7) (pe_op op_rep (pe_lst (pa_cons (pe_tup (pa_cons pe_str (pa_cons pe_int pa_nil))) pa_nil)) pe_int) (nomark _)) (pe_one (pe_cmpR (op_eqDK (K := K) rfl hr.units) (pe_lst (pa_cons (pe_lam1 (P := P0) (k := 5) (q := qR) (hq := by kernel_rfl) GR (refused_gives T.g_BadArgument T.xc_BadArgument T.xr_BadArgument_BadArgument) TB rfl (hr.mono (by decide)) (LamX.lamS_by (by kernel_rfl)) (fun A outer s H E f c' hr => (pe_df G_write_course (hr.mono (by decide)) (L2N.passes_call (takes_down (L2.takes_of rfl rfl rfl rfl)) fun _ _ _ _ z => z) (pa_cons (pv 9) pa_nil)))) (pa_cons (pe_lam1 (P := P0) (k := 5) (q := qR) (hq := by kernel_rfl) GR (refused_gives T.g_BadArgument T.xc_BadArgument T.xr_BadArgument_BadArgument) TB rfl (hr.mono (by decide)) (LamX.lamS_by (by kernel_rfl)) (fun A outer s H E f c' hr => (pe_dfK0 (ks := ["fraction"]) (g := id) (gV := id) L_write_fraction T.d_write_fraction (fun _ _ _ _ _ _ us hl => match us, hl with | [_], _ => rfl) (fun r l => rel_id r l) (hr.mono (by decide)) (L2N.passes_call (takes_down (L2.takes_of rfl rfl rfl rfl)) fun _ _ _ _ z => z) (pk_cons (pv 9) pk_nil)))) pa_nil))) (pe_lst (pa_cons pe_str (pa_cons pe_str pa_nil))) (nomark _))))))))))))))))), ?_⟩
    have r : RtC H H a P0 c := ⟨hd, t0, .refl _ _⟩
    walk_at "go"
    rename_i k1 hk1
    replace r := r.nil (.new hk1 (o := .tup [.str "tick"]))
    have s1 : StV K (upd H k1 (.tup [.str "tick"])) (.ref k1) := ⟨_, _, rfl, .of upd_same, .inl rfl⟩
    generalize upd H k1 (.tup [.str "tick"]) = H1 at *
    refine ⟨a, 5, c, rfl, r.dice, by omega, by decide, by decide, fun i1 H2 i1a i1b d2 o2 => ?_⟩
    replace r := r.dc o2 d2
    replace s1 := s1.off o2
    clear o2 d2 hk1
    walk_at "go"
    rename_i k2 hk2 k3 hk3
    have o3 : Off [] H2 (upd (upd H2 k2 (.tup [.str "tell", .int i1])) k3 (.tup [.str "hear", .int 4])) := (Off.new hk2).new2 hk3
    have s2 : StV K (upd (upd H2 k2 (.tup [.str "tell", .int i1])) k3 (.tup [.str "hear", .int 4])) (.ref k2) := ⟨_, _, rfl, .of (upd_new upd_same hk3), .inr (.inl ⟨i1, ⟨i1a, by omega⟩, .inl rfl⟩)⟩
    have s3 : StV K (upd (upd H2 k2 (.tup [.str "tell", .int i1])) k3 (.tup [.str "hear", .int 4])) (.ref k3) := ⟨_, _, rfl, .of upd_same, .inr (.inl ⟨4, by decide, .inr rfl⟩)⟩
    replace r := r.nil o3
    replace s1 := s1.off o3
    clear o3
    generalize upd (upd H2 k2 (.tup [.str "tell", .int i1])) k3 (.tup [.str "hear", .int 4]) = H3 at *
    clear hk2 hk3
    refine ⟨a, 5, _, rfl, r.dice, by omega, by decide, by decide, fun i2 H4 i2a i2b d4 o4 => ?_⟩
    replace r := r.dc o4 d4
    replace s1 := s1.off o4
    replace s2 := s2.off o4
    replace s3 := s3.off o4
    clear o4 d4
    walk_at "go"
    refine ⟨a, 20, _, rfl, r.dice, by omega, by decide, by decide, fun i3 H5 i3a i3b d5 o5 => ?_⟩
    replace r := r.dc o5 d5
    replace s1 := s1.off o5
    replace s2 := s2.off o5
    replace s3 := s3.off o5
    clear o5 d5
    walk_at "go"
    rename_i k4 hk4 L hL
    have o6 : Off [] H5 (upd (upd H5 k4 (.tup [.str "land", .int i2, .int (1 + i3)])) L (.lst [.ref k1, .ref k2, .ref k3, .ref k4])) := (Off.new hk4).new2 hL
    have s4 : StV K (upd (upd H5 k4 (.tup [.str "land", .int i2, .int (1 + i3)])) L (.lst [.ref k1, .ref k2, .ref k3, .ref k4])) (.ref k4) := ⟨_, _, rfl, .of (upd_new upd_same hL), .inr (.inr (.inl ⟨i2, 1 + i3, ⟨i2a, by omega⟩, ⟨by omega, by omega⟩, rfl⟩))⟩
    have eL : (upd (upd H5 k4 (.tup [.str "land", .int i2, .int (1 + i3)])) L (.lst [.ref k1, .ref k2, .ref k3, .ref k4])) L = some (.lst [.ref k1, .ref k2, .ref k3, .ref k4]) := upd_same
    replace s1 := s1.off o6
    replace s2 := s2.off o6
    replace s3 := s3.off o6
    have naL : a ≠ L := by
      rintro rfl
      obtain ⟨_, _, _, e, _⟩ := r.dice
      rw [(upd_back hL).1] at e; cases e
    have hLH : H L = none := r.off.back (upd_back hL).1
    replace r := r.nil o6
    clear o6
    generalize upd (upd H5 k4 (.tup [.str "land", .int i2, .int (1 + i3)])) L (.lst [.ref k1, .ref k2, .ref k3, .ref k4]) = H6 at *
    clear hk4 hL
    walk_at "go"
    refine ⟨a, 4, _, rfl, r.dice, by omega, by decide, by decide, fun i4 H7 i4a i4b d7 o7 => ?_⟩
    walk_at "go"
    refine ⟨a, 500, _, rfl, d7, by omega, by decide, by decide, fun i5 H8 i5a i5b d8 o8 => ?_⟩
    replace r := r.dc (o7.trans o8) d8
    replace s1 := s1.off (o7.trans o8)
    replace s2 := s2.off (o7.trans o8)
    replace s3 := s3.off (o7.trans o8)
    replace s4 := s4.off (o7.trans o8)
    replace eL := (o7.trans o8).at (by simpa using naL.symm) eL
    clear o7 o8 d7
    walk_at "go"
    rename_i lp hlp
    have o9 : Off [] H8 (upd H8 lp (.lst [.int 1, .int 500, .int (1 + i5)])) := .new hlp
    replace r := r.nil o9
    have nap : a ≠ lp := by
      rintro rfl
      obtain ⟨_, _, _, e, _⟩ := d8
      rw [hlp] at e; cases e
    refine ⟨a, lp, _, _, rfl, r.dice, by omega, .of upd_same, by simp, by simp, nap, fun v9 H10 hv9 d10 o10 => ?_⟩
    replace r := r.dc o10 d10
    replace s1 := (s1.off o9).off o10
    replace s2 := (s2.off o9).off o10
    replace s3 := (s3.off o9).off o10
    replace s4 := (s4.off o9).off o10
    replace eL := o10.at (by simpa using naL.symm) (o9.at nin_nil eL)
    obtain ⟨n9, rfl, n9a, n9b⟩ : ∃ n : Int, v9 = .int n ∧ 1 ≤ n ∧ n ≤ 500 := by
      simp only [List.mem_cons, List.not_mem_nil, or_false] at hv9
      rcases hv9 with rfl | rfl | rfl
      all_goals exact ⟨_, rfl, by omega, by omega⟩
    clear o10 o9 d10 hlp hv9 nap d8
    walk_at "go"
    rename_i k5 hk5
    have o11 : Off [] H10 (upd H10 k5 (.tup [.str "trade", .int 0, .int (1 + i4), .int n9])) := .new hk5
    have s5 : StV K (upd H10 k5 (.tup [.str "trade", .int 0, .int (1 + i4), .int n9])) (.ref k5) := ⟨_, _, rfl, .of upd_same, .inr (.inr (.inr ⟨0, 1 + i4, n9, by decide, ⟨by omega, by omega⟩, by omega, ⟨n9a, n9b⟩, rfl⟩))⟩
    replace r := r.nil o11
    replace s1 := s1.off o11
    replace s2 := s2.off o11
    replace s3 := s3.off o11
    replace s4 := s4.off o11
    replace eL := o11.at nin_nil eL
    generalize upd H10 k5 (.tup [.str "trade", .int 0, .int (1 + i4), .int n9]) = H11 at *
    clear o11 hk5
    refine g_app' eL (by rw [hsz]; simp) fun H12 eL2 o12 => ?_
    replace r := r.mu o12 eL hLH naL
    have all5 : ∀ v ∈ [V.ref k1, V.ref k2, V.ref k3, V.ref k4, V.ref k5], StV K H12 v := fun v hv => by
      simp only [List.mem_cons, List.not_mem_nil, or_false] at hv
      rcases hv with rfl | rfl | rfl | rfl | rfl
      · exact s1.off o12
      · exact s2.off o12
      · exact s3.off o12
      · exact s4.off o12
      · exact s5.off o12
    clear s1 s2 s3 s4 s5 eL o12
    walk_at "go"
    refine ⟨a, 12, _, rfl, r.dice, by omega, by decide, by decide, fun n H13 n0 n1 d13 o13 => ?_⟩
    replace r := r.dc o13 d13
    have eL3 := o13.at (by simpa using naL.symm) eL2
    have all5 : ∀ v ∈ [V.ref k1, V.ref k2, V.ref k3, V.ref k4, V.ref k5], StV K H13 v := fun v hv => (all5 v hv).off o13
    clear o13 d13 eL2
    walk_at "go"
    refine lcR_mk ⟨by omega, by omega⟩ (fun D i H1 => ∃ xs yss, H1 D = some (.lst xs) ∧ Paired (fun x ys => ∃ q, x = V.ref q ∧ SqT K H1 q ys) xs yss ∧ (∀ ys ∈ yss, Vld ys) ∧ yss.length = i ∧ DiceAt H1 a (c + 1 + 1 + 1 + 1 + 1 + 1 + 1 + (i : Int)) ∧ Off [a] H13 H1) (fun D hD => ?_) (fun D i H1 hD hi hP => ?_) (fun D H1 hD hP => ?_)
    · exact ⟨[], [], upd_same, .nil, by simp, rfl, by simpa using r.dice.off (.new hD) nin_nil, (Off.new hD).mono fun _ h => absurd h nin_nil⟩
    · obtain ⟨xs, yss, eD, hp, hv, hl, dd, oo⟩ := hP
      refine ⟨rfl, ?_⟩
      have naD : a ≠ D := by
        rintro rfl
        obtain ⟨_, _, _, e, _⟩ := r.dice
        rw [hD] at e; cases e
      walk_at "go"
      refine ⟨a, L, _, _, rfl, dd, by omega, .of (oo.at (by simpa using naL.symm) eL3), by simp, by simp, naL, fun v H2 hv2 d2 o2 => ?_⟩
      walk_at "go"
      obtain ⟨q2, ys2, rfl, hs2, hv3⟩ := (all5 _ hv2).off (oo.trans o2)
      have oP : Off [D] H2 (upd H2 D (.lst (xs ++ [.ref q2]))) := Off.put (by simp) (o2.at (by simpa using naD.symm) eD) trivial
      refine ⟨xs, o2.at (by simpa using naD.symm) eD, ?_, xs ++ [.ref q2], yss ++ [ys2], upd_same, ?_, ?_, ?_, ?_, ?_⟩
      · have h1 := Paired.length hp
        rw [hsz]
        omega
      · exact paired_snoc (Paired.mapP hp fun x ys hx => by
          obtain ⟨q0, e0, h0⟩ := hx
          exact ⟨q0, e0, oP.seqT (o2.seqT h0)⟩) ⟨q2, rfl, oP.seqT hs2⟩
      · intro z hz
        rcases List.mem_append.mp hz with hz | hz
        · exact hv z hz
        · rw [List.mem_singleton.mp hz]; exact hv3
      · rw [List.length_append, List.length_singleton, hl]
      · have := d2.off oP (by simpa using naD)
        exact this.mono (by omega)
      · exact (oo.trans o2).muts oP fun u hu => by rw [List.mem_singleton.mp hu]; exact .inr hD
    · obtain ⟨xs, yss, eD, hp, hv, hl, dd, oo⟩ := hP
      have r1 : RtC H H1 a P0 _ := r.dc oo dd
      walk_at "go"
      rename_i t hpt
      have op : Off [] H1 (upd H1 t (.tup xs)) := .new hpt
      have tS : SqT K (upd H1 t (.tup xs)) t xs := .of upd_same
      generalize upd H1 t (.tup xs) = Ht at *
      replace r := (r1.nil op).mono (c' := c + 30) (by omega)
      have hp : Paired (CrsA K Ht) xs yss := Paired.mapP hp fun x ys hx => by
        obtain ⟨q0, e0, h0⟩ := hx
        exact ⟨q0, e0, op.seqT h0⟩
      have hl : yss.length ≤ 12 := by omega
      clear r1 op hpt eD dd oo hD all5 eL3 n0 n1 naL hLH i1a i1b i2a i2b i3a i3b i4a i4b i5a i5b n9a n9b
      walk_at "go"
      refine ⟨a, _, rfl, r.dice, by omega, fun fr H7 p q7 fz hp7 hq7 d7 e7 o7 => ?_⟩
      replace r := r.dc o7 d7
      have tS := o7.seqT tS
      have hp : Paired (CrsA K H7) xs yss := Paired.mapP hp fun x ys hx => by
        obtain ⟨q0, e0, h0⟩ := hx
        exact ⟨q0, e0, o7.seqT h0⟩
      clear o7 d7
      walk_at "go"
      refine ⟨_, rfl, .inl ⟨t, xs, yss, rfl, tS, hp, hv, hl, fun H8 o8 => ?_⟩⟩
      replace r := r.nil o8
      have tS := o8.seqT tS
      have hp : Paired (CrsA K H8) xs yss := Paired.mapP hp fun x ys hx => by
        obtain ⟨q0, e0, h0⟩ := hx
        exact ⟨q0, e0, o8.seqT h0⟩
      have e8 := o8.tups _ _ e7
      clear o8 e7
      walk_at "go"
      refine ⟨_, rfl, .inl ⟨fr, p, q7, rfl, .of e8, fz, hp7, hq7, ?_⟩⟩
      walk_at "go"
      refine g_cut (fun σ' H' => σ' = [some (.ref a), some (.ref L), none, some (.ref t), some (.ref fr), some (.str (wrC yss)), some (.str (wrF p q7)), none, none, none, none, none, none, none] ∧ RtC H H' a P0 (c + 35) ∧ SqT K H' t xs ∧ H' fr = some (.tup [.int p, .int q7]) ∧ Paired (CrsA K H') xs yss) ?_ ?_
      rotate_left 1
      · clear tS e8 hp r
        rintro σ' H9 ⟨rfl, r, tS, e8, hp⟩
        have l18p := log18 hp7
        have l18q := log18 hq7
        have ls1 := (show_plt hp7).len
        have ls2 := (show_plt hq7).len
        have lsl : ("/" : Str).length = 1 := by rw [len_tl, tl_slash]; rfl
        have hfd : ∀ H' t, H' t = some (.tup [.int p, .int q7]) → Dp K H' (.ref t) (.tuple [.int p, .int q7]) := fun H' t e => .tup (.of e) (.cons (.int _) (.cons (.int _) .nil))
        refine g_cut (fun σ' H' => σ' = [some (.ref a), some (.ref L), none, some (.ref t), some (.ref fr), some (.str (wrC yss)), some (.str (wrF p q7)), none, none, none, none, none, none, none] ∧ RtC H H' a P0 (c + 35) ∧ SqT K H' t xs ∧ H' fr = some (.tup [.int p, .int q7]) ∧ Paired (CrsA K H') xs yss) ?_ ?_
        · walk_at "go"
          refine br_d (fun cq => ?_) (fun cq => ?_)
          · walk_at "go"
            refine g_strI l18p ?_
            walk_at "go"
            refine br_NT ?_ ?_
            · unfold wrF; rw [if_pos cq]; rfl
            walk_at "go"
            refine ⟨_, rfl, .inl ⟨_, rfl, (wr_plt hp7 hq7).mono (by decide), fun p' q' e H10 ft eft o10 => ?_, fun e => by rw [wr_read fz hp7 hq7] at e; cases e⟩⟩
            rw [wr_read fz hp7 hq7] at e
            cases e
            walk_at "go"
            refine g_neD (hfd _ _ eft) (hfd _ _ (o10.tups _ _ e8)) rfl rfl ?_
            rw [show PyData.eqv (.tuple [.int p, .int q7]) (.tuple [.int p, .int q7]) = true from PySem.SeqAt.eqv_refl _ rfl]
            walk_at "go"
            exact ⟨rfl, r.nil o10, o10.seqT tS, o10.tups _ _ e8, Paired.mapP hp fun x ys hx => by
              obtain ⟨q0, e0, h0⟩ := hx
              exact ⟨q0, e0, o10.seqT h0⟩⟩
          · walk_at "go"
            refine g_strI l18p ?_
            walk_at "go"
            have hs1 : (Str.ofString (toString p)).length ≤ 19 := ls1
            refine g_addS (by rw [hsz]; omega) ?_
            walk_at "go"
            refine g_strI l18q ?_
            walk_at "go"
            have hs2 : (Str.ofString (toString q7)).length ≤ 19 := ls2
            refine g_addS (by rw [hsz, len_app]; omega) ?_
            walk_at "go"
            refine br_NT ?_ ?_
            · unfold wrF; rw [if_neg cq]; rfl
            walk_at "go"
            refine ⟨_, rfl, .inl ⟨_, rfl, (wr_plt hp7 hq7).mono (by decide), fun p' q' e H10 ft eft o10 => ?_, fun e => by rw [wr_read fz hp7 hq7] at e; cases e⟩⟩
            rw [wr_read fz hp7 hq7] at e
            cases e
            walk_at "go"
            refine g_neD (hfd _ _ eft) (hfd _ _ (o10.tups _ _ e8)) rfl rfl ?_
            rw [show PyData.eqv (.tuple [.int p, .int q7]) (.tuple [.int p, .int q7]) = true from PySem.SeqAt.eqv_refl _ rfl]
            walk_at "go"
            exact ⟨rfl, r.nil o10, o10.seqT tS, o10.tups _ _ e8, Paired.mapP hp fun x ys hx => by
              obtain ⟨q0, e0, h0⟩ := hx
              exact ⟨q0, e0, o10.seqT h0⟩⟩
        · clear tS e8 hp r
          rintro σ' H10 ⟨rfl, r, tS, e8, hp⟩
          obtain ⟨cw1, cw2, cw3, cw4⟩ := course_ok hv hl
          refine g_cut (fun σ' H' => ∃ v2 v10 v11, σ' = [some (.ref a), some (.ref L), v2, some (.ref t), some (.ref fr), some (.str (wrC yss)), some (.str (wrF p q7)), none, none, none, v10, v11, none, none] ∧ RtC H H' a P0 (c + 35 + 8 * 8) ∧ Off [a, P0] H10 H') ?_ ?_
          · walk_at "go"
            refine forR_mk (fun i σ' H' => ∃ v2 v10 v11, σ' = [some (.ref a), some (.ref L), v2, some (.ref t), some (.ref fr), some (.str (wrC yss)), some (.str (wrF p q7)), none, none, none, v10, v11, none, none] ∧ RtC H H' a P0 (c + 35 + 8 * (i : Int)) ∧ Off [a, P0] H10 H') (by decide) ⟨none, none, none, rfl, r.mono (by omega), .refl _ _⟩ (fun i σ' H1 hi hP => ?_) (fun σ' H1 hP => ?_)
            · obtain ⟨v2, v10, v11, rfl, r1, oo⟩ := hP
              have i8 : i < 8 := by omega
              walk_at "go"
              refine ⟨a, _, _, rfl, r1.dice, by omega, cw4, fun y1 H2 hy1 d2 o2 => ?_⟩
              replace r1 := r1.dc o2 d2
              replace oo := oo.trans (o2.mono (by simp))
              walk_at "go"
              refine ⟨a, _, _, rfl, r1.dice, by omega, wr_plt hp7 hq7, fun y2 H3 hy2 d3 o3 => ?_⟩
              replace r1 := r1.dc o3 d3
              replace oo := oo.trans (o3.mono (by simp))
              clear o2 d2 o3 d3
              walk_at "go"
              rename_i tp htp
              replace r1 := r1.nil (.new htp (o := .tup [.str y1, .str y2]))
              replace oo := oo.trans ((Off.new htp (o := .tup [.str y1, .str y2]) (S := [])).mono fun _ h => absurd h nin_nil)
              generalize upd H3 tp (.tup [.str y1, .str y2]) = H3' at *
              clear htp
              refine g_lamM r1.tab fun H4 o4 t4 => ?_
              replace r1 := r1.tb o4 t4
              replace oo := oo.trans (o4.mono (by simp))
              clear o4 t4
              walk_at "go"
              refine g_readC (hy1.mono (by decide)) fun H5 rr o5 fz5 => ?_
              replace r1 := r1.nil o5
              replace oo := oo.trans (o5.mono fun _ h => absurd h nin_nil)
              clear o5
              walk_at "go"
              refine g_reprH fz5.dp ((rd_sw hy1).mono (by decide) (by decide)) ?_
              walk_at "go"
              refine ⟨_, rfl, hy1.mono (by decide), fun H6 r6 fz6 o6 => ?_⟩
              replace r1 := r1.nil o6
              replace oo := oo.trans (o6.mono fun _ h => absurd h nin_nil)
              clear o6
              walk_at "go"
              refine g_reprH fz6.dp ((rd_sw hy1).mono (by decide) (by decide)) ?_
              walk_at "go"
              clear fz5 fz6
              refine br_NT rfl ?_
              walk_at "go"
              refine g_lamM r1.tab fun H4 o4 t4 => ?_
              replace r1 := r1.tb o4 t4
              replace oo := oo.trans (o4.mono (by simp))
              clear o4 t4
              walk_at "go"
              refine g_readFr (hy2.mono (by decide)) fun H5 rr o5 fz5 => ?_
              replace r1 := r1.nil o5
              replace oo := oo.trans (o5.mono fun _ h => absurd h nin_nil)
              clear o5
              walk_at "go"
              refine g_reprH fz5.dp ((fd_sw (hy2.mono (by decide))).mono (by decide) (by decide)) ?_
              walk_at "go"
              refine ⟨_, rfl, hy2.mono (by decide), fun H6 r6 fz6 o6 => ?_⟩
              replace r1 := r1.nil o6
              replace oo := oo.trans (o6.mono fun _ h => absurd h nin_nil)
              clear o6
              walk_at "go"
              refine g_reprH fz6.dp ((fd_sw (hy2.mono (by decide))).mono (by decide) (by decide)) ?_
              walk_at "go"
              clear fz5 fz6
              refine br_NT rfl ?_
              walk_at "go"
              exact ⟨_, _, _, rfl, r1.mono (by omega), oo⟩
            · obtain ⟨v2, v10, v11, rfl, r1, oo⟩ := hP
              exact ⟨v2, v10, v11, rfl, r1, oo⟩
          · have tS0 := tS
            have r0 := r
            clear tS r e8 hp
            rintro σ' H11 ⟨v2, v10, v11, rfl, r, oo⟩
            have tS := oo.seqT tS0
            clear oo tS0 r0
            refine g_cut (fun σ' H' => ∃ vb kd O zs, σ' = [some (.ref a), some (.ref L), v2, some (.ref t), some (.ref fr), some (.str (wrC yss)), some (.str (wrF p q7)), none, some vb, some (.ref O), v10, v11, none, none] ∧ RtC H H' a P0 (c + 100) ∧ KdV K H' vb kd ∧ kd ≠ .str ∧ H' O = some (.lst zs) ∧ zs.length = 7 ∧ a ≠ O ∧ (∀ z ∈ zs, OddC K H' z)) ?_ ?_
            · walk_at "go"
              rename_i b1 hb1 b2 hb2 b3 hb3
              have nab : a ≠ b3 := by
                rintro rfl
                have e := (upd_back (upd_back hb3).1).1
                obtain ⟨_, _, _, e', _⟩ := r.dice
                rw [e] at e'; cases e'
              have ob : Off [] H11 (upd (upd (upd H11 b1 (.tup [])) b2 (.lst [.str "tick"])) b3 (.lst [.non, .int 5, .ref b1, .ref b2, .bl true])) := ((Off.new hb1).new2 hb2).new2 hb3
              have eb : (upd (upd (upd H11 b1 (.tup [])) b2 (.lst [.str "tick"])) b3 (.lst [.non, .int 5, .ref b1, .ref b2, .bl true])) b3 = some (.lst [.non, .int 5, .ref b1, .ref b2, .bl true]) := upd_same
              have kb : ∀ v ∈ [V.non, .int 5, .ref b1, .ref b2, .bl true], ∃ kd, KdV K (upd (upd (upd H11 b1 (.tup [])) b2 (.lst [.str "tick"])) b3 (.lst [.non, .int 5, .ref b1, .ref b2, .bl true])) v kd ∧ kd ≠ .str := fun v hv => by
                simp only [List.mem_cons, List.not_mem_nil, or_false] at hv
                rcases hv with rfl | rfl | rfl | rfl | rfl
                · exact ⟨_, .non, by decide⟩
                · exact ⟨_, .int 5, by decide⟩
                · exact ⟨_, .tup (.of (upd_new (upd_new upd_same hb2) hb3)), by decide⟩
                · exact ⟨_, .lst (.of (upd_new upd_same hb3)), by decide⟩
                · exact ⟨_, .bl true, by decide⟩
              replace r := r.nil ob
              have tS := ob.seqT tS
              generalize upd (upd (upd H11 b1 (.tup [])) b2 (.lst [.str "tick"])) b3 (.lst [.non, .int 5, .ref b1, .ref b2, .bl true]) = H12 at *
              clear ob hb1 hb2 hb3
              refine ⟨a, b3, _, _, rfl, r.dice, by omega, .of eb, by simp, by simp, nab, fun vb H13 hvb d13 o13 => ?_⟩
              obtain ⟨kd, hk, nk⟩ := kb vb hvb
              have hk := hk.offDice r.dice d13 o13
              replace r := r.dc o13 d13
              have tS := o13.seqT tS
              clear o13 d13 kb eb nab hvb
              walk_at "go"
              rename_i l hl m1 hm1 m2 hm2 m3 hm3 m4 hm4 m5 hm5 m6 hm6 O hO tp htp
              have oc : Off [] H13 (upd (upd (upd (upd (upd (upd (upd (upd (upd (H13) l (.lst xs)) m1 (.tup [.non])) m2 (.tup [.str "tick", .int 1])) m3 (.tup [.ref m2])) m4 (.tup [.int 2, .int 4])) m5 (.tup [.int 1, .int 0])) m6 (.tup [.int 1, .int (-1)])) O (.lst [.non, .ref l, .ref m1, .ref m3, .ref m4, .ref m5, .ref m6])) tp (.tup [vb, .ref O])) := ((((((((Off.new hl).new2 hm1).new2 hm2).new2 hm3).new2 hm4).new2 hm5).new2 hm6).new2 hO).new2 htp
              have eO : (upd (upd (upd (upd (upd (upd (upd (upd (upd (H13) l (.lst xs)) m1 (.tup [.non])) m2 (.tup [.str "tick", .int 1])) m3 (.tup [.ref m2])) m4 (.tup [.int 2, .int 4])) m5 (.tup [.int 1, .int 0])) m6 (.tup [.int 1, .int (-1)])) O (.lst [.non, .ref l, .ref m1, .ref m3, .ref m4, .ref m5, .ref m6])) tp (.tup [vb, .ref O])) O = some (.lst [.non, .ref l, .ref m1, .ref m3, .ref m4, .ref m5, .ref m6]) := (upd_new (upd_same) htp)
              have hz : ∀ z ∈ [V.non, .ref l, .ref m1, .ref m3, .ref m4, .ref m5, .ref m6], OddC K (upd (upd (upd (upd (upd (upd (upd (upd (upd (H13) l (.lst xs)) m1 (.tup [.non])) m2 (.tup [.str "tick", .int 1])) m3 (.tup [.ref m2])) m4 (.tup [.int 2, .int 4])) m5 (.tup [.int 1, .int 0])) m6 (.tup [.int 1, .int (-1)])) O (.lst [.non, .ref l, .ref m1, .ref m3, .ref m4, .ref m5, .ref m6])) tp (.tup [vb, .ref O])) z := fun z hz => by
                simp only [List.mem_cons, List.not_mem_nil, or_false] at hz
                rcases hz with rfl | rfl | rfl | rfl | rfl | rfl | rfl
                · exact .inl ⟨_, .non, by decide⟩
                · exact .inl ⟨_, .lst (.of (upd_new (upd_new (upd_new (upd_new (upd_new (upd_new (upd_new (upd_new (upd_same) hm1) hm2) hm3) hm4) hm5) hm6) hO) htp)), by decide⟩
                · exact .inr ⟨_, _, [false], rfl, .of (upd_new (upd_new (upd_new (upd_new (upd_new (upd_new (upd_new (upd_same) hm2) hm3) hm4) hm5) hm6) hO) htp), .cons (.inl ⟨rfl, rfl⟩) .nil, by simp, rfl, fun z => (by cases z), .inl (rfl)⟩
                · exact .inr ⟨_, _, [stepB [.str "tick", .int 1] 5], rfl, .of (upd_new (upd_new (upd_new (upd_new (upd_new (upd_same) hm4) hm5) hm6) hO) htp), .cons (.inr ⟨_, _, rfl, .of (upd_new (upd_new (upd_new (upd_new (upd_new (upd_new (upd_same) hm3) hm4) hm5) hm6) hO) htp), by kernel_rfl, rfl⟩) .nil, by simp, rfl, fun z => (by cases z), .inl (rfl)⟩
                · exact .inr ⟨_, _, [false, false], rfl, .of (upd_new (upd_new (upd_new (upd_new (upd_same) hm5) hm6) hO) htp), .cons (.inl ⟨rfl, rfl⟩) (.cons (.inl ⟨rfl, rfl⟩) .nil), by simp, rfl, fun _ => rfl, .inl (by decide +kernel)⟩
                · exact .inr ⟨_, _, [false, false], rfl, .of (upd_new (upd_new (upd_new (upd_same) hm6) hO) htp), .cons (.inl ⟨rfl, rfl⟩) (.cons (.inl ⟨rfl, rfl⟩) .nil), by simp, rfl, fun _ => rfl, .inl (by decide +kernel)⟩
                · exact .inr ⟨_, _, [false, false], rfl, .of (upd_new (upd_new (upd_same) hO) htp), .cons (.inl ⟨rfl, rfl⟩) (.cons (.inl ⟨rfl, rfl⟩) .nil), by simp, rfl, fun _ => rfl, .inl (by decide +kernel)⟩
              have naO : a ≠ O := by
                rintro rfl
                have e := (upd_back (upd_back (upd_back (upd_back (upd_back (upd_back (upd_back hO).1).1).1).1).1).1).1
                obtain ⟨_, _, _, e', _⟩ := r.dice
                rw [e] at e'; cases e'
              replace r := r.nil oc
              have hk := hk.off oc (fun _ _ _ _ => nin_nil)
              exact ⟨vb, kd, O, _, rfl, r.mono (by omega), hk, nk, eO, by simp, naO, hz⟩
            · clear tS r
              rintro σ' H12 ⟨vb, kd, O, zs, rfl, r, hk, nk, hO, lO, naO, hz⟩
              refine g_cut (fun σ' H' => ∃ vo, σ' = [some (.ref a), some (.ref L), v2, some (.ref t), some (.ref fr), some (.str (wrC yss)), some (.str (wrF p q7)), none, some vb, some vo, v10, v11, none, none] ∧ RtC H H' a P0 (c + 101) ∧ KdV K H' vb kd ∧ OddC K H' vo) ?_ ?_
              · walk_at "go"
                rename_i g1 h1 g2 h2 g3 h3
                have og : Off [] H12 (upd (upd (upd H12 g1 (.tup [.int 1000000000000000000, .int 1])) g2 (.tup [.int 1, .int 2, .int 3])) g3 (.lst [.ref g1, .ref g2])) := ((Off.new h1).new2 h2).new2 h3
                have z1 : OddC K (upd (upd (upd H12 g1 (.tup [.int 1000000000000000000, .int 1])) g2 (.tup [.int 1, .int 2, .int 3])) g3 (.lst [.ref g1, .ref g2])) (.ref g1) := .inr ⟨_, _, [false, false], rfl, .of (upd_new (upd_new upd_same h2) h3), .cons (.inl ⟨rfl, rfl⟩) (.cons (.inl ⟨rfl, rfl⟩) .nil), by simp, rfl, fun _ => rfl, .inr ⟨_, _, rfl, .inl (by decide +kernel)⟩⟩
                have z2 : OddC K (upd (upd (upd H12 g1 (.tup [.int 1000000000000000000, .int 1])) g2 (.tup [.int 1, .int 2, .int 3])) g3 (.lst [.ref g1, .ref g2])) (.ref g2) := .inr ⟨_, _, [false, false, false], rfl, .of (upd_new upd_same h3), .cons (.inl ⟨rfl, rfl⟩) (.cons (.inl ⟨rfl, rfl⟩) (.cons (.inl ⟨rfl, rfl⟩) .nil)), by simp, rfl, fun z => (by cases z), .inl rfl⟩
                have hO2 := og.at nin_nil hO
                have hz2 : ∀ z ∈ zs ++ [V.ref g1, .ref g2], OddC K (upd (upd (upd H12 g1 (.tup [.int 1000000000000000000, .int 1])) g2 (.tup [.int 1, .int 2, .int 3])) g3 (.lst [.ref g1, .ref g2])) z := fun z hm => by
                  rcases List.mem_append.mp hm with hm | hm
                  · exact (hz z hm).nil og
                  · simp only [List.mem_cons, List.not_mem_nil, or_false] at hm
                    rcases hm with rfl | rfl
                    · exact z1
                    · exact z2
                refine g_cat hO2 upd_same (by rw [hsz]; simp; omega) fun g4 h4 => ?_
                have o4 := og.new2 h4 (o := .lst (zs ++ [.ref g1, .ref g2]))
                have e4 : (upd (upd (upd (upd H12 g1 (.tup [.int 1000000000000000000, .int 1])) g2 (.tup [.int 1, .int 2, .int 3])) g3 (.lst [.ref g1, .ref g2])) g4 (.lst (zs ++ [.ref g1, .ref g2]))) g4 = some (.lst (zs ++ [.ref g1, .ref g2])) := upd_same
                have hz4 : ∀ z ∈ zs ++ [V.ref g1, .ref g2], OddC K (upd (upd (upd (upd H12 g1 (.tup [.int 1000000000000000000, .int 1])) g2 (.tup [.int 1, .int 2, .int 3])) g3 (.lst [.ref g1, .ref g2])) g4 (.lst (zs ++ [.ref g1, .ref g2]))) z := fun z hm => (hz2 z hm).nil (.new h4)
                have na4 : a ≠ g4 := by
                  rintro rfl
                  have e := (upd_back (upd_back (upd_back h4).1).1).1
                  obtain ⟨_, _, _, e', _⟩ := r.dice
                  rw [e] at e'; cases e'
                replace r := r.nil o4
                have hk := hk.off o4 (fun _ _ _ _ => nin_nil)
                clear og z1 z2 hO2 hz2 o4
                generalize upd (upd (upd (upd H12 g1 (.tup [.int 1000000000000000000, .int 1])) g2 (.tup [.int 1, .int 2, .int 3])) g3 (.lst [.ref g1, .ref g2])) g4 (.lst (zs ++ [.ref g1, .ref g2])) = H13 at *
                clear h1 h2 h3 h4
                walk_at "go"
                refine ⟨a, g4, _, _, rfl, r.dice, by omega, .of e4, by simp, by simp; omega, na4, fun vo H14 hvo d14 o14 => ?_⟩
                have ho := (hz4 vo hvo).off_ o14 fun kd k => k.offDice r.dice d14 o14
                have hk := hk.offDice r.dice d14 o14
                replace r := r.dc o14 d14
                walk_at "go"
                exact ⟨vo, rfl, r.mono (by omega), hk, ho⟩
              clear hk hz hO r
              rintro σ' H13 ⟨vo, rfl, r, hk, ho⟩
              refine g_cut (fun σ' H' => ∃ Tl r1 r2, σ' = [some (.ref a), some (.ref L), v2, some (.ref t), some (.ref fr), some (.str (wrC yss)), some (.str (wrF p q7)), some (.ref Tl), some vb, some vo, v10, v11, none, none] ∧ RtC H H' a P0 (c + 101) ∧ OddC K H' vo ∧ H' Tl = some (.lst [.ref r1, .ref r2]) ∧ H' r1 = some (.tup [.str "bad", .int 0]) ∧ H' r2 = some (.tup [.str "bad", .int 0])) ?_ ?_
              · walk_at "go"
                refine g_lamM r.tab fun H14 o14 t14 => ?_
                obtain ⟨ps, hP, _⟩ := r.tab
                have hk := hk.offTab hP o14
                have ho := ho.off_ o14 fun kd k => k.offTab hP o14
                replace r := r.tb o14 t14
                clear o14 t14 hP
                walk_at "go"
                refine g_readCb hk nk fun H15 r1 o15 e15 => ?_
                have hk := hk.off o15 (fun _ _ _ _ => nin_nil)
                have ho := ho.nil o15
                replace r := r.nil o15
                clear o15
                walk_at "go"
                refine g_lamM r.tab fun H16 o16 t16 => ?_
                obtain ⟨ps, hP, _⟩ := r.tab
                have hk := hk.offTab hP o16
                have ho := ho.off_ o16 fun kd k => k.offTab hP o16
                replace r := r.tb o16 t16
                have e16 := o16.tups _ _ e15
                clear o16 t16 hP e15
                walk_at "go"
                refine g_readFb hk nk fun H17 r2 o17 e17 => ?_
                have ho := ho.nil o17
                replace r := r.nil o17
                have e16 := o17.tups _ _ e16
                walk_at "go"
                rename_i Tl hT
                exact ⟨Tl, r1, r2, rfl, r.nil (.new hT), ho.nil (.new hT), upd_same, upd_new e16 hT, upd_new e17 hT⟩
              clear hk ho r
              rintro σ' H14 ⟨Tl, r1, r2, rfl, r, ho, hT, e1, e2⟩
              walk_at "go"
              rename_i x1 hx1 x2 hx2
              have ox := (Off.new (S := []) hx1 (o := .tup [.str "bad", .int 0])).new2 hx2 (o := .lst [.ref x1])
              have ex : (upd (upd H14 x1 (.tup [.str "bad", .int 0])) x2 (.lst [.ref x1])) x1 = some (.tup [.str "bad", .int 0]) := upd_new upd_same hx2
              have ex2 : (upd (upd H14 x1 (.tup [.str "bad", .int 0])) x2 (.lst [.ref x1])) x2 = some (.lst [.ref x1]) := upd_same
              replace r := r.nil ox
              have ho := ho.nil ox
              have hT := ox.at nin_nil hT
              have e1 := ox.tups _ _ e1
              have e2 := ox.tups _ _ e2
              generalize upd (upd H14 x1 (.tup [.str "bad", .int 0])) x2 (.lst [.ref x1]) = H15 at *
              clear ox hx1 hx2
              refine g_rep ex2 (by decide) (by decide) (by simp) fun x3 hx3 => ?_
              have bd : ∀ H' x, H' x = some (.tup [.str "bad", .int 0]) → Dp K H' (.ref x) (.tuple [.str "bad", .int 0]) := fun H' x e => .tup (.of e) (.cons (.str _) (.cons (.int _) .nil))
              refine g_eqD (d := .list [.tuple [.str "bad", .int 0], .tuple [.str "bad", .int 0]]) (e := .list [.tuple [.str "bad", .int 0], .tuple [.str "bad", .int 0]]) (.lst (.of (upd_new hT hx3)) (.cons (bd _ _ (upd_new e1 hx3)) (.cons (bd _ _ (upd_new e2 hx3)) .nil))) (.lst (.of upd_same) (.cons (bd _ _ (upd_new ex hx3)) (.cons (bd _ _ (upd_new ex hx3)) .nil))) (by kernel_rfl) (by kernel_rfl) ?_
              rw [show PyData.eqv (.list [.tuple [.str "bad", .int 0], .tuple [.str "bad", .int 0]]) (.list [.tuple [.str "bad", .int 0], .tuple [.str "bad", .int 0]]) = true from by kernel_rfl]
              have ox3 := Off.new (S := []) hx3 (o := .lst (List.replicate (Int.toNat 2) [V.ref x1]).flatten)
              replace r := r.nil ox3
              have ho := ho.nil ox3
              generalize upd H15 x3 (.lst (List.replicate (Int.toNat 2) [V.ref x1]).flatten) = H16 at *
              clear ox3 hx3 ex ex2 hT e1 e2
              walk_at "go"
              refine g_lamR r.tab fun H17 o17 t17 => ?_
              obtain ⟨ps, hP, _⟩ := r.tab
              have ho := ho.off_ o17 fun kd k => k.offTab hP o17
              replace r := r.tb o17 t17
              clear o17 t17 hP
              walk_at "go"
              refine odd_wrC ho fun H18 o18 => g_refE fun _ H19 _ o19 => ?_
              have ho := (ho.nil o18).nil o19
              replace r := (r.nil o18).nil o19
              clear o18 o19
              walk_at "go"
              refine g_lamR r.tab fun H20 o20 t20 => ?_
              obtain ⟨ps, hP, _⟩ := r.tab
              have ho := ho.off_ o20 fun kd k => k.offTab hP o20
              replace r := r.tb o20 t20
              clear o20 t20 hP
              walk_at "go"
              refine odd_wrF ho (g_refE fun _ H21 _ o21 => ?_)
              replace r := r.nil o21
              clear o21
              walk_at "go"
              rename_i w1 hw1 w2 hw2
              refine g_eqD (d := .list [.str "steps", .str "fraction"]) (e := .list [.str "steps", .str "fraction"]) (.lst (.of (upd_new upd_same hw2)) (.cons (.str _) (.cons (.str _) .nil))) (.lst (.of upd_same) (.cons (.str _) (.cons (.str _) .nil))) (by kernel_rfl) (by kernel_rfl) ?_
              rw [show PyData.eqv (.list [.str "steps", .str "fraction"]) (.list [.str "steps", .str "fraction"]) = true from by kernel_rfl]
              replace r := r.nil ((Off.new (S := []) hw1 (o := .lst [.str "steps", .str "fraction"])).new2 hw2 (o := .lst [.str "steps", .str "fraction"]))
              exact q _ r.off r.tab
      walk_at "go"
      have hlen := Paired.length hp
      refine lcT_at (yss.map fun ys => V.str (lineS ys)) tS (by rw [List.length_map]; exact hlen.symm) (by omega) ?_ ?_
      · intro i x y2 H4 hxi hyi o4 M N kk
        obtain ⟨ys, hys, rfl⟩ : ∃ ys, yss[i]? = some ys ∧ V.str (lineS ys) = y2 := by simpa using hyi
        obtain ⟨ys', hy5, p5, rfl, hp4⟩ := paired_get hp hxi
        cases hys.symm.trans hy5
        have vy := hv ys (List.mem_of_getElem? hys)
        have hp5 := o4.seqT hp4
        have yl : ys.length ≤ 4 := by
          obtain ⟨w0, ns, rfl, n3, n5, nw⟩ := vld_parts vy
          simp
          omega
        walk_at "go"
        refine ⟨rfl, ?_⟩
        walk_at "go"
        refine lcT_pure (fun x => .str (strV x)) (fun _ => true) hp5 (by omega) (fun _ => rfl) ?_ ?_ ?_
        · intro x H5 hx o5 M kk
          walk_at "go"
          exact kk _ (.refl _ _)
        · intro x H5 hx _ o5 M kk
          walk_at "go"
          exact g_strV vy hx (kk _ (.refl _ _))
        · intro D5 H5 hD5 o5 e5
          have e5 : H5 D5 = some (.lst ((ys.map strV).map V.str)) := by rw [e5, filter_tt, List.map_map]; rfl
          walk_at "go"
          exact g_join (.of e5) (line_sum vy) (kk _ o5)
      intro D9 H9 hD9 o9 e9
      walk_at "go"
      have e9 : H9 D9 = some (.lst ((yss.map lineS).map V.str)) := by rw [e9, List.map_map]; rfl
      refine g_join (.of e9) (course_sum hv hl) ?_
      replace r := r.nil o9
      have tS := o9.seqT tS
      have hp : Paired (CrsA K H9) xs yss := Paired.mapP hp fun x ys hx => by
        obtain ⟨q0, e0, h0⟩ := hx
        exact ⟨q0, e0, o9.seqT h0⟩
      have e8 := o9.tups _ _ e8
      clear o9 e9 hD9
      have e1w : Txt.join "\n" (yss.map lineS) = wrC yss := rfl
      rw [e1w]
      obtain ⟨cw1, cw2, cw3, cw4⟩ := course_ok hv hl
      refine ⟨rfl, ?_⟩
      rw [decide_eq_true (show V.str (wrC yss) = V.str (wrC yss) from rfl)]
      walk_at "go"
      refine ⟨_, rfl, .inl ⟨wrC yss, rfl, cw4.mono (by decide), fun _ H10 p10 xs10 e10 pr10 o10 => ?_, fun k hk => by rw [cw2] at hk; cases hk⟩⟩
      walk_at "go"
      replace r := r.nil o10
      have tS := o10.seqT tS
      have e8 := o10.tups _ _ e8
      have hp : Paired (CrsA K H10) xs yss := Paired.mapP hp fun x ys hx => by
        obtain ⟨q0, e0, h0⟩ := hx
        exact ⟨q0, e0, o10.seqT h0⟩
      have pr10 := crs_read (K := K) pr10
      rw [cw3] at pr10
      refine g_neD (crs_dp (.of e10) pr10 hv) (crs_dp tS hp hv) ((crs_sw hv).shaped (by decide)) ((crs_sw hv).shaped (by decide)) ?_
      rw [(crs_sw hv).refl]
      clear o10 e10 pr10
      walk_at "go"
      refine ⟨_, rfl, .inl ⟨wrC yss, rfl, cw4.mono (by decide), fun _ H11 p11 xs11 e11 pr11 o11 => ?_, fun k hk => by rw [cw2] at hk; cases hk⟩⟩
      walk_at "go"
      replace r := r.nil o11
      have tS := o11.seqT tS
      have e8 := o11.tups _ _ e8
      have hp : Paired (CrsA K H11) xs yss := Paired.mapP hp fun x ys hx => by
        obtain ⟨q0, e0, h0⟩ := hx
        exact ⟨q0, e0, o11.seqT h0⟩
      have pr11 := crs_read (K := K) pr11
      rw [cw3] at pr11
      refine g_neD (crs_dp (.of e11) pr11 hv) (crs_dp tS hp hv) ((crs_sw hv).shaped (by decide)) ((crs_sw hv).shaped (by decide)) ?_
      rw [(crs_sw hv).refl]
      clear o11 e11 pr11
      walk_at "go"
      exact ⟨rfl, r.mono (by omega), tS, e8, hp⟩
end
end SH
end

section
/-! #### the walk's words -/
local macro_rules | `(tactic| walk_at "ne0") => `(tactic| first
  | assumption
  | (refine Ne.symm ?_; assumption))
local macro_rules | `(tactic| walk_at "ne") => `(tactic| first
  | assumption
  | (refine Ne.symm ?_; assumption)
  | (refine' L2.ne_of_none ?gx (by assumption); (case gx => walk_at "hp"))
  | (refine' Ne.symm (L2.ne_of_none ?gx (by assumption)); (case gx => walk_at "hp")))
local macro_rules | `(tactic| walk_at "hp") => `(tactic| first
  | assumption
  | exact L2.upd_same
  | (refine' SH.upd_new ?gh (by assumption); (case gh => walk_at "hp"))
  | (refine' (L2.upd_ne ?gn).trans ?gh; (case gn => walk_at "ne0"); (case gh => walk_at "hp"))
  | (refine' SH.Off.at (by assumption) ?gn ?gh; (case gn => walk_at "nin"); (case gh => walk_at "hp")))
local macro_rules | `(tactic| walk_at "nin") => `(tactic| first
  | exact SH.nin_nil
  | (refine SH.nin_cons ?_ ?_; (· walk_at "ne0"); (· walk_at "nin")))
local macro_rules | `(tactic| walk_at "sq") => `(tactic| first
  | assumption
  | (apply L2.SqL.of; (· walk_at "hp"))
  | (apply L2.SqT.of; (· walk_at "hp"))
  | (refine' SH.seqT_new ?gx (by assumption); (case gx => walk_at "sq"))
  | (refine' SH.seqL_new ?gx (by assumption); (case gx => walk_at "sq"))
  | (refine' SH.Off.seqT (by assumption) ?gx; (case gx => walk_at "sq"))
  | (refine' SH.Off.seqL (by assumption) ?gy ?gx; (case gx => walk_at "sq"); (case gy => walk_at "nin")))
local macro_rules | `(tactic| walk_at "kd") => `(tactic| first
  | assumption | exact SH.KdV.int _ | exact SH.KdV.bl _ | exact SH.KdV.str _ | exact SH.KdV.non
  | (apply SH.KdV.tup; (· walk_at "sq")) | (apply SH.KdV.lst; (· walk_at "sq")))
/-- a way that cannot be -/
local macro_rules | `(tactic| walk_at "no") => `(tactic| (exfalso; first | assumption | omega | contradiction | (simp_all; done)))
/-- one step -/
local macro_rules | `(tactic| walk_at "g1") => `(tactic| with_reducible first
  | refine SH.g_var (by with_unfolding_all rfl) ?_ | refine SH.g_c ?_ | refine SH.g_op ?_ | refine SH.g_un ?_ | refine SH.g_I0 ?_ | refine SH.g_U ?_
  | refine SH.g_eqI ?_ | refine SH.g_neI ?_ | refine SH.g_eqS ?_ | refine SH.g_neS ?_
  | refine SH.g_test ?_ | refine SH.g_B ?_ | refine SH.g_isB ?_ | refine SH.g_and ?_ | refine SH.g_or ?_ | refine SH.g_not ?_ | refine SH.g_andV ?_ | refine SH.g_orV ?_ | refine SH.g_notV ?_ | refine SH.g_ifE ?_ | refine SH.g_chain ?_
  | refine SH.g_nil ?_ | refine SH.g_cons ?_ | refine SH.g_tup ?_ | refine SH.g_lst ?_ | refine SH.g_call ?_ | refine SH.g_fld ?_ | refine SH.g_meth ?_ | refine SH.g_make ?_ | refine SH.g_cb ?_ | refine SH.g_bm ?_
  | refine SH.g_seq ?_ | refine SH.g_asg ?_ | refine SH.g_name ?_ | refine SH.g_drop ?_ | refine SH.g_ret ?_ | refine SH.g_retN ?_ | refine SH.g_next ?_ | refine SH.g_brk ?_ | refine SH.g_cnt ?_ | refine SH.g_ifs ?_ | refine SH.g_par ?_ | refine SH.g_par2 ?_ | refine SH.g_fldS ?_ | refine SH.g_raise ?_ | refine SH.g_rs ?_
  | refine SH.g_sub ?_ | refine SH.g_yes ?_ | refine SH.g_sl ?_ | refine SH.g_noPart ?_ | refine SH.g_part ?_ | refine SH.g_intO ?_ | refine SH.g_dget ?_ | refine SH.g_dput ?_ | refine SH.g_forR ?_ | refine SH.g_forL ?_ | refine SH.g_forT ?_ | refine SH.g_lcR ?_ | refine SH.g_lcL ?_ | refine SH.g_lcT ?_ | refine SH.g_gcons ?_ | refine SH.g_gnil ?_
  | refine SH.br_t ?_ | refine SH.br_f ?_
  | refine SH.g_int ?_ | refine SH.g_abs ?_ | refine SH.g_max2 ?_ | refine SH.g_min2 ?_)
local macro_rules | `(tactic| walk_at "g2") => `(tactic| first
  | walk_at "g1"
  | ((with_reducible refine' SH.g_isiInt ?ga ?gz); (case ga => walk_at "kd"))
  | ((with_reducible refine' SH.g_isiBool ?ga ?gz); (case ga => walk_at "kd"))
  | ((with_reducible refine' SH.g_isiStr ?ga ?gz); (case ga => walk_at "kd"))
  | ((with_reducible refine' SH.g_isiTup ?ga ?gz); (case ga => walk_at "kd"))
  | ((with_reducible refine' SH.g_ixT ?ga ?gb ?gz); (case ga => walk_at "sq"); (case gb => rfl))
  | ((with_reducible refine' SH.g_ixL ?ga ?gb ?gz); (case ga => walk_at "sq"); (case gb => first | rfl | (apply SH.atI_refs; assumption)))
  | ((with_reducible refine SH.br_F ?_ ?_); (· decide +kernel)) | ((with_reducible refine SH.br_T ?_ ?_); (· decide +kernel)) | ((with_reducible refine SH.br_NF ?_ ?_); (· decide +kernel)) | ((with_reducible refine SH.br_NT ?_ ?_); (· decide +kernel))
  | ((with_reducible refine' SH.g_gtup ?ga ?gb ?gz); (case ga => walk_at "sq"); (case gb => rfl))
  | ((with_reducible refine' SH.g_lenT ?ga ?gz); (case ga => walk_at "sq"))
  | ((with_reducible refine' SH.g_lenL ?ga ?gz); (case ga => walk_at "sq"))
  | ((with_reducible refine SH.g_mkT (SH.sz rfl) ?_); intro _ _)
  | ((with_reducible refine SH.g_mkL (SH.sz rfl) ?_); intro _ _)
  | ((with_reducible refine SH.g_dnew ?_); intro _ _)
  | ((with_reducible refine' SH.g_tupL ?ga ?gz); (case ga => walk_at "sq"); intro _ _)
  | ((with_reducible refine' SH.g_lstL ?ga ?gz); (case ga => walk_at "sq"); intro _ _)
  | ((with_reducible refine' SH.g_lstT ?ga ?gz); (case ga => walk_at "sq"); intro _ _)
  | ((with_reducible refine' SH.g_dgR ?ga ?gb ?gz); (case ga => walk_at "hp"); (case gb => walk_at "dv"))
  | ((with_reducible refine' SH.g_fldR ?ga ?gb ?gc ?gd ?gz); (case ga => walk_at "hp"); (case gb => walk_at "cl"); (case gc => walk_at "na"); (case gd => walk_at "fv"))
  | ((with_reducible refine' SH.g_insR ?ga ?gb ?gz); (case ga => walk_at "hp"); (case gb => walk_at "fn"))
  | ((with_reducible refine' SH.g_setL ?ga ?gb ?gz); (case ga => walk_at "hp"); (case gb => rfl))
  | ((with_reducible refine SH.g_I ?_ ?_); (· walk_at "ci"))
  | ((with_reducible refine' SH.g_slL ?ga ?gz); (case ga => walk_at "sq"); intro _ _)
  | ((with_reducible refine' SH.g_cat ?ga ?gb ?gc ?gz); (case ga => walk_at "hp"); (case gb => walk_at "hp"); (case gc => walk_at "ls"); intro _ _))
/-- the side conditions of numbers: a divisor, a factor -/
local macro_rules | `(tactic| walk_at "ci") => `(tactic| first
  | (show _ ≠ _; omega) | (show _ < _; omega) | (constructor <;> omega) | (refine Or.inr ⟨?_, ?_⟩ <;> (show _ < _; omega)) | (refine Or.inl ⟨?_, ?_⟩ <;> (show _ < _; omega)) | (refine ⟨?_, ?_, ?_⟩ <;> decide))
local macro_rules | `(tactic| walk_at "ls") => `(tactic| first | (show _ ≤ _; exact Nat.le_trans (by assumption) (by decide)) | (show _ ≤ _; exact Nat.le_trans (by simp; omega) (by decide : 1000 ≤ sizeLine)))
local macro_rules | `(tactic| walk_at "dv") => `(tactic| rfl)
local macro_rules | `(tactic| walk_at "fv") => `(tactic| rfl)
local macro_rules | `(tactic| walk_at "fn") => `(tactic| rfl)
local macro_rules | `(tactic| walk_at "cl") => `(tactic| assumption)
local macro_rules | `(tactic| walk_at "na") => `(tactic| assumption)
local macro_rules | `(tactic| walk_at "go") => `(tactic| repeat walk_at "g2")
/-- a way is split -/
local macro_rules | `(tactic| walk_at "br") => `(tactic| with_reducible first
  | refine SH.br_d (fun _ => ?_) (fun _ => ?_) | refine SH.br_nd (fun _ => ?_) (fun _ => ?_) | refine SH.br_b (fun _ => ?_) (fun _ => ?_))
/-- all ways -/
local macro_rules | `(tactic| walk_at "all") => `(tactic| repeat' first | walk_at "g2" | (walk_at "br" <;> try (walk_at "no")))
/-- a truth value is the other -/
local macro_rules | `(tactic| walk_at "bq") => `(tactic| first | rfl | (simp_all; done) | (simp_all; omega) | (simp only [decide_eq_true_eq, decide_eq_false_iff_not, Bool.and_eq_true, Bool.or_eq_true] at *; omega))
/-- what was tracked is as it was -/
local macro_rules | `(tactic| walk_at "of") => `(tactic| first
  | assumption
  | exact SH.Off.refl _ _
  | (refine' SH.Off.new2 ?gx (by assumption); (case gx => walk_at "of"))
  | (refine' SH.Off.mut ?gx (by assumption); (case gx => walk_at "of"))
  | (refine' SH.Off.trans' ?gx (by assumption) ?gy; (case gy => (intro _ h; (first | exact h | (simp at h; done) | (simp at h ⊢; simp [h]; done)))); (case gx => walk_at "of")))
/-- texts -/
local macro_rules | `(tactic| walk_at "g2") => `(tactic| first
  | (with_reducible first | refine SH.br_ntt ?_ | refine SH.br_ntf ?_ | refine SH.br_k ?_ | refine SH.br_nk ?_ | refine SH.g_lcS ?_ | refine SH.g_leS ?_ | refine SH.g_niS ?_ | refine SH.g_strS ?_ | refine SH.g_tM1 ?_ | refine SH.g_isStr ?_ | refine SH.g_enL ?_ | refine SH.g_star ?_)
  | ((with_reducible refine SH.g_slS ?_ ?_); (· omega))
  | ((with_reducible refine SH.g_lenS ?_ ?_); (· omega))
  | ((with_reducible refine' SH.g_bml ?ga ?gz); (case ga => walk_at "sq")))
namespace SH
open PySem PySem.Spec PyProof.Rows L2 LamX TL NumText
def qL : Str := "law.<locals>.<lambda>"
theorem rep_size (a : Array Nat) : ∀ (n : Nat) (b : Array Nat), ((List.replicate n a).foldl (· ++ ·) b).size = b.size + n * a.size
  | 0, b => by simp
  | n + 1, b => by
    rw [List.replicate_succ, List.foldl_cons, rep_size a n (b ++ a), Array.size_append, Nat.add_mul]
    omega
def rRepS : R2 := fun x y H Q => ∃ (z : Str) (n : Int), x = .str z ∧ y = .int n ∧ 2 ≤ n ∧ n ≤ 1000000 ∧ z.length = 1 ∧ ∀ u : Str, u.length = n.toNat → Q (.str u) H
section
variable {X : Cx}
theorem op_repS : OpR X (binaryOp .Mult) rRepS := by
  intro pins s σ H x y v u Q I rx ry h
  obtain ⟨z, n, rfl, rfl, h1, h2, hz, q⟩ := h
  obtain ⟨t, rfl⟩ := rx
  obtain ⟨t', rfl⟩ := ry
  have hz' : z.cps.size = 1 := hz
  have hd : (2 ^ 63 : Int) = 9223372036854775808 := by decide +kernel
  have n1 : (n == 1 || z.length == 0) = false := by
    rw [hz, Bool.or_eq_false_iff]
    exact ⟨beq_eq_false_iff_ne.mpr (by omega), rfl⟩
  refine P.mul_str ?_ ?_ ?_ ?_
  · rw [decide_eq_false (by omega), decide_eq_false (by omega)]; rfl
  · intro _ _
    rw [hz]
    have : 1 ≤ (2 ^ 63 - 1 : Int) / n := Int.le_ediv_of_mul_le (by omega) (by omega)
    omega
  · intro _ _
    rw [hz]
    show decide (_ > sizeLine) = false
    rw [sizeLine_eq]
    exact decide_eq_false (by omega)
  · have hs := rep_size z.cps n.toNat #[]
    rw [hz', Nat.mul_one] at hs
    have hs0 : (#[] : Array Nat).size = 0 := rfl
    rw [hs0, Nat.zero_add] at hs
    rw [if_neg (by omega), if_neg (by rw [n1]; exact Bool.false_ne_true)]
    refine ⟨?_, ⟨.str _, H, I.tok _, ⟨_, rfl⟩, q _ hs⟩⟩
    show (List.foldl (fun x1 x2 => x1 ++ x2) #[] (List.replicate n.toNat z.cps)).size ≤ sizeLine
    rw [hs, sizeLine_eq]
    omega
end
theorem g_repS {z : Str} {n : Int} {H : Hp} {Q : VK} (h1 : 2 ≤ n) (h2 : n ≤ 1000000) (hz : z.length = 1) (q : ∀ u : Str, u.length = n.toNat → Q (.str u) H) : rRepS (.str z) (.int n) H Q := ⟨z, n, rfl, rfl, h1, h2, hz, q⟩
theorem wr_32 : wrF (-3) 2 = "-3/2" := by decide +kernel
def spLawZ (K : PySem.W.Frag) (P0 P1 : Addr) : Sp := fun vs H Q _ => ∃ (a : Addr) (ns : List Int), vs = [.ref a] ∧ SqL K H a (ns.map V.int) ∧ ns.length ≤ 63 ∧ H P0 = some (.tbl #[]) ∧ H P1 = some (.tbl #[]) ∧ a ≠ P0 ∧ a ≠ P1 ∧ P0 ≠ P1 ∧ ∀ H', Q (.bl true) H'
section
variable {P : Program} {w : World} {K : PySem.W.Frag} {mg : Str → Option Value} {base : Heap}
theorem okG_law (T : Txt P w K mg) {cR P0 cL P1 : Addr} (hR : CodeOf K mg "_law_right" cR) (TBR : TabB base mg cR P0) (hL : CodeOf K mg "law" cL) (TB : TabB base mg cL P1) : DefGX (L2N.CX P w) P w K mg base "law" 9 ["script"] (spLawZ K P0 P1) := by
  refine T.d_law.okGX sc_law (fun _ _ _ _ _ _ us hl => match us, hl with | [_], _ => rfl) (fun vs H Q E h => ?_) (fun f cdv A outer s H vs Q E hcv hg hr h => ?_)
  · obtain ⟨a, ns, rfl, _⟩ := h
    rfl
  · obtain ⟨a, ns, rfl, hs, hn, h0, h1, na0, na1, n01, q⟩ := h
    have hcv' := hcv cL hL
    subst hcv'
    have ok_law_right : ∀ {base : Heap} (T : Txt P w K mg), True := fun _ => trivial
    have B := T.blt
    have hu := hu_of hr
    have G_law_right := ok_law_right (base := base) T
    obtain ⟨gM, cdM, GM⟩ := gets_met T
    have G_read_fraction := ok_read_fraction (base := base) T
    have G_law_dice := ok_law_dice (base := base) T
    have G_read_course := ok_read_course (base := base) T
    have G_law_right := SH.okG_law_right (base := base) T hR TBR
    refine ⟨_, (pss_cons (ps_for (passes_of rfl) rfl (pi_range1 rfl B.b_range (pa_cons (pe_callB (c_max2 rfl) (by rfl) B.b_max (by decide +kernel) (pa_cons pe_int (pa_cons (pe_callB (c_min2 rfl) (by rfl) B.b_min (by decide +kernel) (pa_cons pe_int (pa_cons (pe_callB (c_lenK (K := K) rfl) (by rfl) B.b_len PySem.boot_len (pa_cons (pv 0) pa_nil)) pa_nil))) pa_nil))) pa_nil)) (pg_name (i := 1) sc_law.nd rfl (by first | exact Or.inl rfl | exact Or.inr rfl))
    (pss_one (ps_if (pt_not (pt_val (pe_dfGX (CX := L2N.CX _ _) G_law_right hg (hr.mono (by decide)) (L2N.passes_call (L2N.takes_of rfl rfl rfl rfl) fun _ _ _ _ z => z) (pa_cons (pe_df G_law_dice (hr.mono (by decide)) (L2N.passes_call (L2N.takes_of rfl rfl rfl rfl) fun _ _ _ _ z => z) (pa_cons (pv 0) (pa_cons (pv 1) pa_nil))) pa_nil)) (by intro _; rfl)))
    (pss_one (ps_ret pe_bl))
    pss_nil)))
  (pss_one (ps_ret (pe_and (pe_cmpR (op_eqDK (K := K) rfl hr.units) (pe_lam1 (P := P1) (k := 5) (q := qL) (hq := by kernel_rfl) GM (met_gives T) TB rfl (hr.mono (by decide)) (LamX.lamS_by (by kernel_rfl)) (fun A outer s H E f c' hr => (pe_df G_read_course (hr.mono (by decide)) (L2N.passes_call (takes_down (L2.takes_of rfl rfl rfl rfl)) fun _ _ _ _ z => z) (pa_cons (pe_op op_repS pe_str pe_int) pa_nil)))) (pe_tup (pa_cons pe_str (pa_cons pe_int pa_nil))) (nomark _)) (pe_one (pe_cmpR (op_eqDK (K := K) rfl hr.units) (pe_df G_read_fraction (hr.mono (by decide)) (L2N.passes_call (L2N.takes_of rfl rfl rfl rfl) fun _ _ _ _ z => z) (pa_cons pe_str pa_nil)) (pe_tup (pa_cons (pe_un un_neg pe_int) (pa_cons pe_int pa_nil))) (nomark _))))))), ?_⟩
    walk_at "go"
    refine forR_mk (fun i σ H1 => ∃ t, σ = [some (.ref a), t] ∧ Off [P0] H H1 ∧ TabS H1 P0 qR ∧ TabS H1 P1 qL) (by split <;> split <;> omega) ⟨none, rfl, .refl _ _, TabS.nil h0, TabS.nil h1⟩ (fun i σ H1 hi hP => ?_) (fun σ H1 hP => ?_)
    · obtain ⟨t, rfl, oo, t0, t1⟩ := hP
      have hi4 : i < 4 := by
        revert hi
        split <;> split <;> intro hi <;> omega
      walk_at "go"
      refine ⟨a, (i : Int), ns, rfl, oo.seqL (by simp [na0]) hs, hn, by omega, by omega, fun p H2 hp dd o2 => ?_⟩
      walk_at "go"
      have t02 := SH.TabS.off t0 o2 nin_nil NoExt.nil
      have t12 := SH.TabS.off t1 o2 nin_nil NoExt.nil
      refine ⟨p, 0, rfl, dd, by omega, t02, fun H3 o3 t03 => ?_⟩
      walk_at "go"
      have npP1 : p ≠ P1 := DiceAt.neP dd t12
      have ne3 : NoExt H2 [p, P0] := fun b hb φ e => by
        simp only [List.mem_cons, List.not_mem_nil, or_false] at hb
        rcases hb with rfl | rfl
        · exact dd.noext b (by simp) φ e
        · obtain ⟨_, e2, _⟩ := t02
          rw [e2] at e; cases e
      refine ⟨_, rfl, (oo.trans (o2.mono fun _ h => absurd h nin_nil)).muts o3 ?_, t03, SH.TabS.off t12 o3 (by simp [npP1.symm, n01.symm]) ne3⟩
      intro u hu
      simp only [List.mem_cons, List.not_mem_nil, or_false] at hu
      rcases hu with rfl | rfl
      · exact .inr (oo.back hp)
      · exact .inl (by simp)
    · obtain ⟨t, rfl, oo, t0, t1⟩ := hP
      walk_at "go"
      refine g_lamM t1 fun H2 o2 t2 => ?_
      walk_at "go"
      refine g_repS (by decide) (by decide) (by kernel_rfl) fun u hu => ?_
      walk_at "go"
      have hu' : u.length = 200001 := hu
      refine ⟨_, rfl, .inr (.inl ⟨u, rfl, by omega, by omega, fun H3 o3 => g_metE fun r H4 e4 o4 => ?_⟩)⟩
      walk_at "go"
      rename_i e he
      have bd : ∀ H' x, H' x = some (.tup [.str "bad", .int 0]) → Dp K H' (.ref x) (.tuple [.str "bad", .int 0]) := fun H' x e => .tup (.of e) (.cons (.str _) (.cons (.int _) .nil))
      refine g_eqD (bd _ _ (upd_new e4 he)) (bd _ _ upd_same) (by kernel_rfl) (by kernel_rfl) ?_
      rw [show PyData.eqv (.tuple [.str "bad", .int 0]) (.tuple [.str "bad", .int 0]) = true from by kernel_rfl]
      walk_at "go"
      have rd : readF "-3/2" = some (-3, 2) := by rw [← wr_32]; exact wr_read (by decide +kernel) (by decide +kernel) (by decide +kernel)
      refine ⟨_, rfl, .inl ⟨_, rfl, ⟨by decide +kernel, by decide +kernel⟩, fun p' q' e' H5 ft eft o5 => ?_, fun e' => by rw [rd] at e'; cases e'⟩⟩
      rw [rd] at e'
      cases e'
      walk_at "go"
      rename_i x hx
      have fd : ∀ H' x, H' x = some (.tup [.int (-3), .int 2]) → Dp K H' (.ref x) (.tuple [.int (-3), .int 2]) := fun H' x e => .tup (.of e) (.cons (.int _) (.cons (.int _) .nil))
      refine g_eqD (fd _ _ (upd_new eft hx)) (fd _ _ upd_same) (by kernel_rfl) (by kernel_rfl) ?_
      rw [show PyData.eqv (.tuple [.int (-3), .int 2]) (.tuple [.int (-3), .int 2]) = true from by kernel_rfl]
      exact q _
end
end SH
end

section
/-! #### the walk's words -/
local macro_rules | `(tactic| walk_at "ne0") => `(tactic| first
  | assumption
  | (refine Ne.symm ?_; assumption))
local macro_rules | `(tactic| walk_at "ne") => `(tactic| first
  | assumption
  | (refine Ne.symm ?_; assumption)
  | (refine' L2.ne_of_none ?gx (by assumption); (case gx => walk_at "hp"))
  | (refine' Ne.symm (L2.ne_of_none ?gx (by assumption)); (case gx => walk_at "hp")))
local macro_rules | `(tactic| walk_at "hp") => `(tactic| first
  | assumption
  | exact L2.upd_same
  | (refine' SH.upd_new ?gh (by assumption); (case gh => walk_at "hp"))
  | (refine' (L2.upd_ne ?gn).trans ?gh; (case gn => walk_at "ne0"); (case gh => walk_at "hp"))
  | (refine' SH.Off.at (by assumption) ?gn ?gh; (case gn => walk_at "nin"); (case gh => walk_at "hp")))
local macro_rules | `(tactic| walk_at "nin") => `(tactic| first
  | exact SH.nin_nil
  | (refine SH.nin_cons ?_ ?_; (· walk_at "ne0"); (· walk_at "nin")))
local macro_rules | `(tactic| walk_at "sq") => `(tactic| first
  | assumption
  | (apply L2.SqL.of; (· walk_at "hp"))
  | (apply L2.SqT.of; (· walk_at "hp"))
  | (refine' SH.seqT_new ?gx (by assumption); (case gx => walk_at "sq"))
  | (refine' SH.seqL_new ?gx (by assumption); (case gx => walk_at "sq"))
  | (refine' SH.Off.seqT (by assumption) ?gx; (case gx => walk_at "sq"))
  | (refine' SH.Off.seqL (by assumption) ?gy ?gx; (case gx => walk_at "sq"); (case gy => walk_at "nin")))
local macro_rules | `(tactic| walk_at "kd") => `(tactic| first
  | assumption | exact SH.KdV.int _ | exact SH.KdV.bl _ | exact SH.KdV.str _ | exact SH.KdV.non
  | (apply SH.KdV.tup; (· walk_at "sq")) | (apply SH.KdV.lst; (· walk_at "sq")))
/-- a way that cannot be -/
local macro_rules | `(tactic| walk_at "no") => `(tactic| (exfalso; first | assumption | omega | contradiction | (simp_all; done)))
/-- one step -/
local macro_rules | `(tactic| walk_at "g1") => `(tactic| with_reducible first
  | refine SH.g_var (by with_unfolding_all rfl) ?_ | refine SH.g_c ?_ | refine SH.g_op ?_ | refine SH.g_un ?_ | refine SH.g_I0 ?_ | refine SH.g_U ?_
  | refine SH.g_eqI ?_ | refine SH.g_neI ?_ | refine SH.g_eqS ?_ | refine SH.g_neS ?_
  | refine SH.g_test ?_ | refine SH.g_B ?_ | refine SH.g_isB ?_ | refine SH.g_and ?_ | refine SH.g_or ?_ | refine SH.g_not ?_ | refine SH.g_andV ?_ | refine SH.g_orV ?_ | refine SH.g_notV ?_ | refine SH.g_ifE ?_ | refine SH.g_chain ?_
  | refine SH.g_nil ?_ | refine SH.g_cons ?_ | refine SH.g_tup ?_ | refine SH.g_lst ?_ | refine SH.g_call ?_ | refine SH.g_fld ?_ | refine SH.g_meth ?_ | refine SH.g_make ?_ | refine SH.g_cb ?_ | refine SH.g_bm ?_
  | refine SH.g_seq ?_ | refine SH.g_asg ?_ | refine SH.g_name ?_ | refine SH.g_drop ?_ | refine SH.g_ret ?_ | refine SH.g_retN ?_ | refine SH.g_next ?_ | refine SH.g_brk ?_ | refine SH.g_cnt ?_ | refine SH.g_ifs ?_ | refine SH.g_par ?_ | refine SH.g_par2 ?_ | refine SH.g_fldS ?_ | refine SH.g_raise ?_ | refine SH.g_rs ?_
  | refine SH.g_sub ?_ | refine SH.g_yes ?_ | refine SH.g_sl ?_ | refine SH.g_noPart ?_ | refine SH.g_part ?_ | refine SH.g_intO ?_ | refine SH.g_dget ?_ | refine SH.g_dput ?_ | refine SH.g_forR ?_ | refine SH.g_forL ?_ | refine SH.g_forT ?_ | refine SH.g_lcR ?_ | refine SH.g_lcL ?_ | refine SH.g_lcT ?_ | refine SH.g_gcons ?_ | refine SH.g_gnil ?_
  | refine SH.br_t ?_ | refine SH.br_f ?_
  | refine SH.g_int ?_ | refine SH.g_abs ?_ | refine SH.g_max2 ?_ | refine SH.g_min2 ?_)
local macro_rules | `(tactic| walk_at "g2") => `(tactic| first
  | walk_at "g1"
  | ((with_reducible refine' SH.g_isiInt ?ga ?gz); (case ga => walk_at "kd"))
  | ((with_reducible refine' SH.g_isiBool ?ga ?gz); (case ga => walk_at "kd"))
  | ((with_reducible refine' SH.g_isiStr ?ga ?gz); (case ga => walk_at "kd"))
  | ((with_reducible refine' SH.g_isiTup ?ga ?gz); (case ga => walk_at "kd"))
  | ((with_reducible refine' SH.g_ixT ?ga ?gb ?gz); (case ga => walk_at "sq"); (case gb => rfl))
  | ((with_reducible refine' SH.g_ixL ?ga ?gb ?gz); (case ga => walk_at "sq"); (case gb => first | rfl | (apply SH.atI_refs; assumption)))
  | ((with_reducible refine SH.br_F ?_ ?_); (· decide +kernel)) | ((with_reducible refine SH.br_T ?_ ?_); (· decide +kernel)) | ((with_reducible refine SH.br_NF ?_ ?_); (· decide +kernel)) | ((with_reducible refine SH.br_NT ?_ ?_); (· decide +kernel))
  | ((with_reducible refine' SH.g_gtup ?ga ?gb ?gz); (case ga => walk_at "sq"); (case gb => rfl))
  | ((with_reducible refine' SH.g_lenT ?ga ?gz); (case ga => walk_at "sq"))
  | ((with_reducible refine' SH.g_lenL ?ga ?gz); (case ga => walk_at "sq"))
  | ((with_reducible refine SH.g_mkT (SH.sz rfl) ?_); intro _ _)
  | ((with_reducible refine SH.g_mkL (SH.sz rfl) ?_); intro _ _)
  | ((with_reducible refine SH.g_dnew ?_); intro _ _)
  | ((with_reducible refine' SH.g_tupL ?ga ?gz); (case ga => walk_at "sq"); intro _ _)
  | ((with_reducible refine' SH.g_lstL ?ga ?gz); (case ga => walk_at "sq"); intro _ _)
  | ((with_reducible refine' SH.g_lstT ?ga ?gz); (case ga => walk_at "sq"); intro _ _)
  | ((with_reducible refine' SH.g_dgR ?ga ?gb ?gz); (case ga => walk_at "hp"); (case gb => walk_at "dv"))
  | ((with_reducible refine' SH.g_fldR ?ga ?gb ?gc ?gd ?gz); (case ga => walk_at "hp"); (case gb => walk_at "cl"); (case gc => walk_at "na"); (case gd => walk_at "fv"))
  | ((with_reducible refine' SH.g_insR ?ga ?gb ?gz); (case ga => walk_at "hp"); (case gb => walk_at "fn"))
  | ((with_reducible refine' SH.g_setL ?ga ?gb ?gz); (case ga => walk_at "hp"); (case gb => rfl))
  | ((with_reducible refine SH.g_I ?_ ?_); (· walk_at "ci"))
  | ((with_reducible refine' SH.g_slL ?ga ?gz); (case ga => walk_at "sq"); intro _ _)
  | ((with_reducible refine' SH.g_cat ?ga ?gb ?gc ?gz); (case ga => walk_at "hp"); (case gb => walk_at "hp"); (case gc => walk_at "ls"); intro _ _))
/-- the side conditions of numbers: a divisor, a factor -/
local macro_rules | `(tactic| walk_at "ci") => `(tactic| first
  | (show _ ≠ _; omega) | (show _ < _; omega) | (constructor <;> omega) | (refine Or.inr ⟨?_, ?_⟩ <;> (show _ < _; omega)) | (refine Or.inl ⟨?_, ?_⟩ <;> (show _ < _; omega)) | (refine ⟨?_, ?_, ?_⟩ <;> decide))
local macro_rules | `(tactic| walk_at "ls") => `(tactic| first | (show _ ≤ _; exact Nat.le_trans (by assumption) (by decide)) | (show _ ≤ _; exact Nat.le_trans (by simp; omega) (by decide : 1000 ≤ sizeLine)))
local macro_rules | `(tactic| walk_at "dv") => `(tactic| rfl)
local macro_rules | `(tactic| walk_at "fv") => `(tactic| rfl)
local macro_rules | `(tactic| walk_at "fn") => `(tactic| rfl)
local macro_rules | `(tactic| walk_at "cl") => `(tactic| assumption)
local macro_rules | `(tactic| walk_at "na") => `(tactic| assumption)
local macro_rules | `(tactic| walk_at "go") => `(tactic| repeat walk_at "g2")
/-- a way is split -/
local macro_rules | `(tactic| walk_at "br") => `(tactic| with_reducible first
  | refine SH.br_d (fun _ => ?_) (fun _ => ?_) | refine SH.br_nd (fun _ => ?_) (fun _ => ?_) | refine SH.br_b (fun _ => ?_) (fun _ => ?_))
/-- all ways -/
local macro_rules | `(tactic| walk_at "all") => `(tactic| repeat' first | walk_at "g2" | (walk_at "br" <;> try (walk_at "no")))
/-- a truth value is the other -/
local macro_rules | `(tactic| walk_at "bq") => `(tactic| first | rfl | (simp_all; done) | (simp_all; omega) | (simp only [decide_eq_true_eq, decide_eq_false_iff_not, Bool.and_eq_true, Bool.or_eq_true] at *; omega))
/-- what was tracked is as it was -/
local macro_rules | `(tactic| walk_at "of") => `(tactic| first
  | assumption
  | exact SH.Off.refl _ _
  | (refine' SH.Off.new2 ?gx (by assumption); (case gx => walk_at "of"))
  | (refine' SH.Off.mut ?gx (by assumption); (case gx => walk_at "of"))
  | (refine' SH.Off.trans' ?gx (by assumption) ?gy; (case gy => (intro _ h; (first | exact h | (simp at h; done) | (simp at h ⊢; simp [h]; done)))); (case gx => walk_at "of")))
namespace SH
open PySem PySem.Spec PyProof.Rows L2 LamX
theorem facts {w : World} {K : PySem.W.Frag} {h : Heap} {mg : Str → Option Value} {f cR P0 cL P1 : Addr} (X : K.In h) (G : h.Ns mainGlobals mg) (hfa : mg ("law" : Str) = some (.ref f)) (c : Hq.obsQ fa fn xs ex thePr K = Hq.valQ fn xs)
    (hR : PySem.W.tabIn K "_law_right" = some (cR, P0)) (hL : PySem.W.tabIn K "law" = some (cL, P1)) :
    ∃ fd : FuncData, (∀ (s : Shared) (v : Value), BindsTo s fd ⟨[v], []⟩ [("script", v)]) ∧ ∀ base : Heap, TabB base mg cR P0 → TabB base mg cL P1 → FnG thePr w K mg base (L2N.CX thePr w) 9 f fd ["script"] (spLawZ K P0 P1) := by
  have T : Txt thePr w K mg := txt_of X G c
  obtain ⟨f1, fd, F, hm⟩ := T.d_law
  cases hfa.symm.trans hm
  have b := FunD.bindsA (ps := ["script"]) F fun _ _ _ _ _ _ us hl => match us, hl with | [_], _ => rfl
  refine ⟨fd, fun s v => b s [v] rfl, fun base TR TL => ?_⟩
  obtain ⟨f2, fd2, G2, m2, _, _, oc, od, osl, lk2⟩ := okG_law (base := base) T (codeOf_tab X G hR) TR (codeOf_tab X G hL) TL
  cases hfa.symm.trans m2
  obtain ⟨oc1, od1, dV, kV, doc, pm, an, cdv, ct, osl1, rfl, lk, _, _, _⟩ := F.ex
  cases lk.symm.trans lk2
  exact G2
theorem rec_R : ((recsOf (PySem.W.view R.prog [at_law_right, lawAt])).find? (fun e => e.name == ("_law_right" : Str))).isSome = true := by kernel_rfl
theorem rec_L : ((recsOf (PySem.W.view R.prog [at_law_right, lawAt])).find? (fun e => e.name == ("law" : Str))).isSome = true := by kernel_rfl
theorem all2 {φ : Addr × Addr → Prop} {x y : Addr × Addr} (hx : φ x) (hy : φ y) : ∀ p ∈ [x, y], φ p := fun p hp => by
  simp only [List.mem_cons, List.not_mem_nil, or_false] at hp
  rcases hp with rfl | rfl
  · exact hx
  · exact hy
end SH
open PySem PySem.W PySem.Calls PyProof.Rows
theorem PySem.Challenge.cw_surehaul_k07_whole_texts_holds : PySem.Challenge.rw_surehaul_k07_whole_texts.Holds := by
  w_on; o_law
  refine HandSHeadRun.head_any (r := OpenLaw.row PySem.Challenge.rw_surehaul_k07_whole_texts) (q := view (OpenLaw.row PySem.Challenge.rw_surehaul_k07_whole_texts).prog [SH.at_law_right, SH.lawAt]) (H := SH.hk) (ob := SH.ob) (M := 4000) (loose := SH.loose) (d := HandSHeadRun.topDef (OpenLaw.row PySem.Challenge.rw_surehaul_k07_whole_texts).prog SH.lawAt) (kwd := []) SH.ob_eq
    (by kernel_rfl) (fun s => by kernel_rfl) SH.run (by kernel_rfl) (by kernel_rfl) (by kernel_rfl) (by rfl) (by first | assumption | decide +kernel) (by decide +kernel) ⟨rfl, rfl, rfl, rfl, rfl, by decide +kernel⟩ ?hw ?hc
  case hw => w_witness2
  case hc =>
    refine SH.walk_ofTG (l := PySem.Challenge.rw_surehaul_k07_whole_texts) (n := 63) (k := 9) (x := "script") (CX := fun w => L2N.CX SH.thePr w) rfl (by decide) (by kernel_rfl) ⟨rfl, by decide, by decide⟩ ?F (fun _ _ _ _ _ z => ?C)
    case C =>
      obtain ⟨_, _, _, _, _, _, _, _, _, _, _, _, q⟩ := z
      exact q
    intro w mg fa h Y G hmg0 TO
    obtain ⟨K, KX, c⟩ := Y
    have hmg : mg ("law" : PySem.Str) = some (.ref fa) := by
      have e : (HandSHeadRun.topDef (OpenLaw.row PySem.Challenge.rw_surehaul_k07_whole_texts).prog SH.lawAt).name = ("law" : PySem.Str) := by kernel_rfl
      rw [← e]
      exact hmg0
    obtain ⟨cR, P0, hR, uR⟩ := SH.tab_law_right c
    obtain ⟨cL, P1, hL, uL⟩ := SH.tab_law c
    obtain ⟨dR, gR⟩ := Option.isSome_iff_exists.mp SH.rec_R
    obtain ⟨dL, gL⟩ := Option.isSome_iff_exists.mp SH.rec_L
    obtain ⟨CR, TR⟩ := TO K "_law_right" cR P0 dR KX gR hR
    obtain ⟨CL, TL⟩ := TO K "law" cL P1 dL KX gL hL
    have n1 : P0 ≠ P1 := SH.tabne_law_right_law c hR hL
    obtain ⟨fd, hb, hF⟩ := SH.facts (w := w) KX G hmg c hR hL
    refine ⟨K, fd, [(cR, P0), (cL, P1)], SH.spLawZ K P0 P1, KX, SH.all2 ⟨TR, uR, CR⟩ ⟨TL, uL, CL⟩, hb, fun H a ns hl hT hS => ?_, fun base _ _ TB => hF base (TB (cR, P0) (by simp)) (TB (cL, P1) (by simp))⟩
    have e0 := hT (cR, P0) (by simp)
    have e1 := hT (cL, P1) (by simp)
    exact ⟨a, ns, rfl, hS, hl, e0, e1, SH.sql_ne hS e0 uR, SH.sql_ne hS e1 uL, n1, fun _ => rfl⟩
end
