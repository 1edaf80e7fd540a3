import PyProof.Rows.All
import Wide.All
import OpenK.AllK
import Wide.FinOn
import PyProof.EqAt
import PyProof.EqKinds
import PyProof.TupleCall
import PyProof.ReprRoads
import KE.KSuper
import KE.KExcSuper
import HandS.Base
import HandS.Call
import HandS.List
import HandS.Comp
import HandS.Ends
import HandS.Dict
import HandS.Iter
import HandS.Text
import HandS.More
import HandS.Exc
import HandS.ExcOwn
import HandS.ExcCtx
import HandS.ExcInit
import HandS.ExcSuper
import HandS.ExcField
import HandS.ExcIs
import HandS.TryOnly
import HandS.TryMany
import HandS.IsInst
import HandS.Defaults
import HandS.Words
import HandS.WordsList
import HandS.WordsDict
import HandS.WordsExc
import HandS.Flow
import HandS.Codes
import HandS.HeadEnd
import HandS.HeadHook1
import HandS.HeadHook2
import HandS.HeadHook3
import HandS.HeadHook4
import KE.KExcIs
import PyProof.Rows.RegFStrParts
import PyProof.SeqIndex
import KE.GoesEnum
import HandS.MakeKw
import PyProof.InstNe
import HandS.SuiteRaise
import HandS.RaiseFrom
import HandS.Lambda
import HandS.TupMul
import HandS.TupAny
import HandS.Style
import HandS.EndTab
import HandS.EndOwn
import HandS.HeadWalk
import KE.KNest
import HandS.Deep
import HandS.RaiseMore
import HandS.Star
import HandS.FStr
import HandS.StrMore
import HandS.TupLen
import KE.KeyNested
import PySem.Challenge.RW_surehaul_k00_whole_sure_for_ever
import HandS.Head0
import HandS.Head1
import HandS.Head2
import HandS.Zip
import KE.KRevSl
set_option Elab.async false
set_option linter.all false
set_option maxRecDepth 100000
set_option maxHeartbeats 4000000
section
/-! ### the framework: promises by names, walks by steps -/
namespace SH
open PySem PySem.Spec PyProof.Rows L2

theorem passN {X : Cx} : Passes (L2N.CX X.prog X.w) X (fun _ _ _ => False) := fun _ _ _ _ _ _ _ h => by
  obtain ⟨_, _, _, _, _, _, _, _, _, _, _, _, q⟩ := h
  exact q.elim
/-! #### defs by their names -/
/-- the module's own name x is a def (the statement st) -/
def TopD (K : PySem.W.Frag) (mg : Str → Option Value) (x : Str) (st : Stmt) : Prop :=
  ∃ f fd, FunD K x x (defArgs st) (defBody st) (defScope st) [] [] f fd ∧ mg x = some (.ref f)
/-- the method m of the class at C (the statement st) -/
def TopM (K : PySem.W.Frag) (C : Addr) (m qual : Str) (st : Stmt) : Prop :=
  ∃ f fd, FunD K m qual (defArgs st) (defBody st) (defScope st) [] [] f fd ∧ Meth K C m f
/-- the class at C is made by its __init__ (the statement st) -/
def TopI (K : PySem.W.Frag) (mg : Str → Option Value) (x : Str) (C : Addr) (qual : Str) (st : Stmt) : Prop :=
  ∃ f fd, FunD K "__init__" qual (defArgs st) (defBody st) (defScope st) [] [] f fd ∧ Mk K C f ∧ mg x = some (.ref C)
section
variable (P : Program) (w : World) (K : PySem.W.Frag) (mg : Str → Option Value) (base : Heap)
/-- the module's name x keeps sp -/
def DefOk (x : Str) (k : Nat) (ps : List Str) (sp : Sp) : Prop :=
  ∃ f fd, FnOk P w K mg base (L2N.CX P w) k f fd ps sp ∧ mg x = some (.ref f) ∧ PySem.W.keepIn K (.ref f) = true ∧ Binds K fd ps []
def MthOk (C : Addr) (m : Str) (k : Nat) (ps : List Str) (sp : Sp) : Prop :=
  ∃ f fd, FnOk P w K mg base (L2N.CX P w) k f fd ps sp ∧ Meth K C m f ∧ Binds K fd ps [] ∧ Cls K C
def MkOk (x : Str) (C : Addr) (k : Nat) (ps : List Str) (sp : Sp) : Prop :=
  ∃ f fd, FnOk P w K mg base (L2N.CX P w) k f fd ps sp ∧ Mk K C f ∧ mg x = some (.ref C) ∧ Binds K fd ps []
end
section
variable {P : Program} {w : World} {K : PySem.W.Frag} {mg : Str → Option Value} {base : Heap} {x qual : Str} {st : Stmt} {N ps : List Str} {k : Nat} {sp : Sp} {C : Addr}
theorem TopD.ok (T : TopD K mg x st) (S : FnScope N ps (defScope st))
    (hb : ∀ (kV doc pm : Value) (an : Option Addr) (cdv ct : Value) (us : List Value), us.length = ps.length → bindArgs (PySem.W.fnOf x x (defArgs st) (defBody st) (defScope st) .none kV doc pm an cdv ct) ⟨us, []⟩ = pure (ps.zip us))
    (len : ∀ vs H Q E, sp vs H Q E → vs.length = ps.length)
    (hbody : ∀ (f : Addr) (cdv : Value) (A : Around) (outer : List Env) (s : Shared) (H : Hp) (vs : List V) (Q : VK) (E : XK), Room k (A.deeper (envOfC x (defScope st) s.heap.objs.size f cdv)) → sp vs H Q E →
      ∃ t, PSs (cxOf (L2N.CX P w) P w K mg base N x (defScope st) f cdv A outer s H E) (defBody st) t ∧ t { nx := fun _ H' => Q .non H', rt := Q } (start N vs) H) : DefOk P w K mg base x (k + 1) ps sp := by
  obtain ⟨f, fd, F, hm⟩ := T
  exact ⟨f, fd, F.ok S len fun cdv A outer s H vs Q E hr h => hbody f cdv A outer s H vs Q E hr h, hm, F.kp, F.bindsN hb⟩
theorem TopM.ok (T : TopM K C x qual st) (c : Cls K C) (S : FnScope N ps (defScope st))
    (hb : ∀ (kV doc pm : Value) (an : Option Addr) (cdv ct : Value) (us : List Value), us.length = ps.length → bindArgs (PySem.W.fnOf x qual (defArgs st) (defBody st) (defScope st) .none kV doc pm an cdv ct) ⟨us, []⟩ = pure (ps.zip us))
    (len : ∀ vs H Q E, sp vs H Q E → vs.length = ps.length)
    (hbody : ∀ (f : Addr) (cdv : Value) (A : Around) (outer : List Env) (s : Shared) (H : Hp) (vs : List V) (Q : VK) (E : XK), Room k (A.deeper (envOfC qual (defScope st) s.heap.objs.size f cdv)) → sp vs H Q E →
      ∃ t, PSs (cxOf (L2N.CX P w) P w K mg base N qual (defScope st) f cdv A outer s H E) (defBody st) t ∧ t { nx := fun _ H' => Q .non H', rt := Q } (start N vs) H) : MthOk P w K mg base C x (k + 1) ps sp := by
  obtain ⟨f, fd, F, hm⟩ := T
  exact ⟨f, fd, F.ok S len fun cdv A outer s H vs Q E hr h => hbody f cdv A outer s H vs Q E hr h, hm, F.bindsN hb, c⟩
theorem TopI.ok (T : TopI K mg x C qual st) (S : FnScope N ps (defScope st))
    (hb : ∀ (kV doc pm : Value) (an : Option Addr) (cdv ct : Value) (us : List Value), us.length = ps.length → bindArgs (PySem.W.fnOf "__init__" qual (defArgs st) (defBody st) (defScope st) .none kV doc pm an cdv ct) ⟨us, []⟩ = pure (ps.zip us))
    (len : ∀ vs H Q E, sp vs H Q E → vs.length = ps.length)
    (hbody : ∀ (f : Addr) (cdv : Value) (A : Around) (outer : List Env) (s : Shared) (H : Hp) (vs : List V) (Q : VK) (E : XK), Room k (A.deeper (envOfC qual (defScope st) s.heap.objs.size f cdv)) → sp vs H Q E →
      ∃ t, PSs (cxOf (L2N.CX P w) P w K mg base N qual (defScope st) f cdv A outer s H E) (defBody st) t ∧ t { nx := fun _ H' => Q .non H', rt := Q } (start N vs) H) : MkOk P w K mg base x C (k + 1) ps sp := by
  obtain ⟨f, fd, F, hm, hx⟩ := T
  exact ⟨f, fd, F.ok S len fun cdv A outer s H vs Q E hr h => hbody f cdv A outer s H vs Q E hr h, hm, hx, F.bindsN hb⟩
end
section
variable {X : Cx} {x m : Str} {k : Nat} {ps : List Str} {sp : Sp} {C : Addr} {E : XK} {p pos apos : Pos} {e o : Expr} {es : List Expr} {ta : TE} {t : TA}
theorem pe_df (D : DefOk X.prog X.w X.K X.mg X.base x k ps sp) (hr : Room k X.A) (hx : Passes (L2N.CX X.prog X.w) X E) (ha : PA X (e :: es) t) (hg : Gl X x := by rfl) (hdb : (x == ("__debug__" : Str)) = false := by decide)
    (hs : starEach (e :: es) X.env = (false, eval e X.env) :: starEach es X.env := by rfl) (hp : (backTo pos (starEach es X.env)).any (·.1) = false := by rfl) : PE X (.Call (.Name x p) (e :: es) [] pos) (tCall sp [] E t) := by
  obtain ⟨f, fd, F, hm, hk, hb⟩ := D
  exact pe_call F hr hg hm hk hb .nil hx ha hdb hs hp
theorem pe_mk (D : MkOk X.prog X.w X.K X.mg X.base x C k ps sp) (hr : Room (k + 1) X.A) (hx : Passes (L2N.CX X.prog X.w) X E) (ha : PA X (e :: es) t) (hg : Gl X x := by rfl) (hdb : (x == ("__debug__" : Str)) = false := by decide)
    (hs : starEach (e :: es) X.env = (false, eval e X.env) :: starEach es X.env := by rfl) (hp : (backTo pos (starEach es X.env)).any (·.1) = false := by rfl) : PE X (.Call (.Name x p) (e :: es) [] pos) (tMake C sp [] E t) := by
  obtain ⟨f, fd, F, hm, hk, hb⟩ := D
  exact pe_make hm F hr hg hk hb .nil hx ha hdb hs hp
end
end SH
namespace SH
open PySem PySem.Spec L2

/-! #### heaps -/
/-- what was tracked is as it was, but for the places S; tuples and what is frozen stay -/
structure Off (S : List Addr) (H H' : Hp) : Prop where
  keep : ∀ a o, a ∉ S → H a = some o → H' a = some o
  tups : ∀ a xs, H a = some (.tup xs) → H' a = some (.tup xs)
  frzs : ∀ a o u, H a = some (.frz o u) → H' a = some (.frz o u)
  live : ∀ a o, H a = some o → ∃ o', H' a = some o'
section
variable {S S' : List Addr} {H H1 H2 H' : Hp} {a b p : Addr} {o u : HO} {K : PySem.W.Frag} {xs : List V}
theorem Off.refl (S : List Addr) (H : Hp) : Off S H H := ⟨fun _ _ _ h => h, fun _ _ h => h, fun _ _ _ h => h, fun _ o h => ⟨o, h⟩⟩
theorem Off.trans (x : Off S H H1) (y : Off S H1 H2) : Off S H H2 :=
  ⟨fun a o n h => y.keep a o n (x.keep a o n h), fun a xs h => y.tups a xs (x.tups a xs h), fun a o u h => y.frzs a o u (x.frzs a o u h), fun a o h => by
    obtain ⟨o', h'⟩ := x.live a o h
    exact y.live a o' h'⟩
theorem Off.mono (x : Off S H H1) (h : ∀ a ∈ S, a ∈ S') : Off S' H H1 := ⟨fun a o n => x.keep a o fun z => n (h a z), x.tups, x.frzs, x.live⟩
theorem Off.new (h : H p = none) : Off S H (upd H p o) :=
  ⟨fun a u _ e => by rw [upd_ne (ne_of_none e h)]; exact e, fun a u e => by rw [upd_ne (ne_of_none e h)]; exact e, fun a u v e => by rw [upd_ne (ne_of_none e h)]; exact e, fun a u e => ⟨u, by rw [upd_ne (ne_of_none e h)]; exact e⟩⟩
theorem Off.put (hm : p ∈ S) (h : H p = some u) (hu : Mut (some u)) : Off S H (upd H p o) := by
  have nt : ∀ {b v}, H b = some v → ¬ Mut (some v) → b ≠ p := fun {b v} e n z => by
    rw [z, h] at e
    cases e
    exact n hu
  exact ⟨fun a u n e => by rw [upd_ne (fun z : a = p => n (by rw [z]; exact hm))]; exact e, fun a u e => by rw [upd_ne (nt e fun z => z)]; exact e, fun a u v e => by rw [upd_ne (nt e fun z => z)]; exact e,
    fun a v e => by
      by_cases q : a = p
      · exact ⟨o, by rw [q, upd_same]⟩
      · exact ⟨v, by rw [upd_ne q]; exact e⟩⟩
theorem Off.at (x : Off S H H') (n : a ∉ S) (h : H a = some o) : H' a = some o := x.keep a o n h
theorem Off.seqL (x : Off S H H') (n : a ∉ S) (h : SqL K H a xs) : SqL K H' a xs := by
  rcases h with (h | ⟨o, h⟩) | h
  · exact .inl (.inl (x.keep _ _ n h))
  · exact .inl (.inr ⟨o, x.frzs _ _ _ h⟩)
  · exact .inr h
theorem Off.seqT (x : Off S H H') (h : SqT K H a xs) : SqT K H' a xs := by
  rcases h with (h | ⟨o, h⟩) | h
  · exact .inl (.inl (x.tups _ _ h))
  · exact .inl (.inr ⟨o, x.frzs _ _ _ h⟩)
  · exact .inr h
theorem Off.back (x : Off S H H') (h : H' p = none) : H p = none := by
  cases q : H p with
  | none => rfl
  | some o =>
    obtain ⟨o', z⟩ := x.live p o q
    rw [h] at z
    cases z
theorem upd_back (h : upd H p o b = none) : H b = none ∧ b ≠ p := by
  by_cases q : b = p
  · rw [q, upd_same] at h; cases h
  · exact ⟨by rw [upd_ne q] at h; exact h, q⟩
theorem upd_new {b : Addr} (h : H b = some u) (hp : H p = none) : upd H p o b = some u := by rw [upd_ne (ne_of_none h hp)]; exact h
theorem nin_nil : a ∉ ([] : List Addr) := by simp
theorem nin_cons {l : List Addr} (h : a ≠ b) (t : a ∉ l) : a ∉ b :: l := by simp [h, t]
theorem in_head {l : List Addr} : a ∈ a :: l := List.mem_cons_self
theorem in_tail {l : List Addr} (h : a ∈ l) : a ∈ b :: l := List.mem_cons_of_mem _ h
end

/-! #### steps of readings -/
def isB (x : V) (H : Hp) (Q : Bool → Hp → Prop) : Prop := ∃ k, x = .bl k ∧ Q k H
def br (b : Bool) (A B : Prop) : Prop := if b = true then A else B
def mkT (xs : List V) (H : Hp) (Q : VK) : Prop := xs.length ≤ sizeLine ∧ ∀ p, H p = none → Q (.ref p) (upd H p (.tup xs))
def mkL (xs : List V) (H : Hp) (Q : VK) : Prop := xs.length ≤ sizeLine ∧ ∀ p, H p = none → Q (.ref p) (upd H p (.lst xs))
def fldR (K : PySem.W.Frag) (f : Str) (x : V) (H : Hp) (Q : VK) : Prop := ∃ a C dx fs v, x = .ref a ∧ H a = some (.ins C dx fs) ∧ Cls K C ∧ NoAttr K C f ∧ fs.lookup f = some v ∧ Q v H
def insR (C : Addr) (m : Str) (x : V) (H : Hp) (A : Prop) : Prop := ∃ a dx fs, x = .ref a ∧ H a = some (.ins C dx fs) ∧ fs.lookup m = none ∧ A
def stR (K : PySem.W.Frag) (f : Str) (y x : V) (H : Hp) (N : Hp → Prop) : Prop := ∃ a C dx fs, x = .ref a ∧ H a = some (.ins C dx fs) ∧ Cls K C ∧ NoAttr K C f ∧ fs.length < 1000 ∧ N (upd H a (.ins C dx (putF f y fs)))
section
variable {K : PySem.W.Frag} {σ : L2.St} {H : Hp} {Q : VK} {x y v : V} {i j : Int} {n r : Nat} {ta tb tc te to tv : TE} {t u : TT} {tA tr : TA} {A B : Prop} {p a C dx : Addr} {b : Bool} {fs : List (Str × V)} {f m : Str} {xs vs : List V}
  {N : L2.St → Hp → Prop} {R : VK} {Bk Ct : L2.St → Hp → Prop} {s1 s2 : TS} {gt : TG} {QB : Bool → Hp → Prop} {QA : List V → Hp → Prop} {sp : Sp} {E : XK}
theorem g_var {k : Nat} (h : σ[k]? = some (some v)) (q : Q v H) : tVar k σ H Q := ⟨v, h, q⟩
theorem g_c (q : Q v H) : tC v σ H Q := q
theorem g_op {r : R2} (q : ta σ H fun x H1 => tb σ H1 fun y H2 => r x y H2 Q) : tOp r ta tb σ H Q := q
theorem g_un {r : V → Hp → VK → Prop} (q : ta σ H fun x H1 => r x H1 Q) : tUn r ta σ H Q := q
theorem g_I0 {g : Int → Int → V} (q : Q (g i j) H) : rI0 g (.int i) (.int j) H Q := ⟨i, j, rfl, rfl, q⟩
theorem g_I {D : Int → Int → Prop} {g : Int → Int → V} (hc : D i j) (q : Q (g i j) H) : rI D g (.int i) (.int j) H Q := ⟨i, j, rfl, rfl, hc, q⟩
theorem g_U {g : Int → V} (q : Q (g i) H) : rU g (.int i) H Q := ⟨i, rfl, q⟩
theorem g_eqI (q : Q (.bl (decide (i = j))) H) : rEq (.int i) (.int j) H Q := ⟨rfl, by
  have e : decide (V.int i = V.int j) = decide (i = j) := decide_eq_decide.mpr ⟨fun h => by cases h; rfl, fun h => by rw [h]⟩
  rw [e]; exact q⟩
theorem g_neI (q : Q (.bl (!decide (i = j))) H) : rNe (.int i) (.int j) H Q := ⟨rfl, by
  have e : decide (V.int i = V.int j) = decide (i = j) := decide_eq_decide.mpr ⟨fun h => by cases h; rfl, fun h => by rw [h]⟩
  rw [e]; exact q⟩
theorem g_eqS {s z : Str} (q : Q (.bl (decide (s = z))) H) : rEq (.str s) (.str z) H Q := ⟨rfl, by
  have e : decide (V.str s = V.str z) = decide (s = z) := decide_eq_decide.mpr ⟨fun h => by cases h; rfl, fun h => by rw [h]⟩
  rw [e]; exact q⟩
theorem g_neS {s z : Str} (q : Q (.bl (!decide (s = z))) H) : rNe (.str s) (.str z) H Q := ⟨rfl, by
  have e : decide (V.str s = V.str z) = decide (s = z) := decide_eq_decide.mpr ⟨fun h => by cases h; rfl, fun h => by rw [h]⟩
  rw [e]; exact q⟩
theorem g_test (q : te σ H fun x H' => isB x H' QB) : tTest te σ H QB := q
theorem g_B (q : te σ H fun x H' => isB x H' QB) : tB te σ H QB := q
theorem g_isB (q : QB b H) : isB (.bl b) H QB := ⟨b, rfl, q⟩
theorem g_and (q : t σ H fun c H1 => br c (u σ H1 QB) (QB false H1)) : tAnd t u σ H QB := q
theorem g_or (q : t σ H fun c H1 => br c (QB true H1) (u σ H1 QB)) : tOr t u σ H QB := q
theorem g_not (q : t σ H fun c H1 => QB (!c) H1) : tNot t σ H QB := q
theorem g_andV (q : ta σ H fun x H1 => isB x H1 fun c H1 => br c (tb σ H1 Q) (Q (.bl false) H1)) : tAndV ta tb σ H Q := q
theorem g_orV (q : ta σ H fun x H1 => isB x H1 fun c H1 => br c (Q (.bl true) H1) (tb σ H1 Q)) : tOrV ta tb σ H Q := q
theorem g_notV (q : ta σ H fun x H1 => isB x H1 fun c H1 => Q (.bl (!c)) H1) : tNotV ta σ H Q := q
theorem g_ifE (q : t σ H fun c H1 => br c (ta σ H1 Q) (tb σ H1 Q)) : tIf t ta tb σ H Q := q
theorem g_chain {r r' : R2} (q : ta σ H fun x H1 => tb σ H1 fun y H2 => r x y H2 fun z H3 => isB z H3 fun k H3 => br k (tc σ H3 fun w H4 => r' y w H4 Q) (Q (.bl false) H3)) : tChain r r' ta tb tc σ H Q := q
theorem g_nil (q : QA [] H) : tNil σ H QA := q
theorem g_cons (q : ta σ H fun x H1 => tr σ H1 fun xs H2 => QA (x :: xs) H2) : tCons ta tr σ H QA := q
theorem g_tup (q : tA σ H fun xs H1 => mkT xs H1 Q) : tTup tA σ H Q := q
theorem g_lst (q : tA σ H fun xs H1 => mkL xs H1 Q) : tLst tA σ H Q := q
theorem g_mkT (h : xs.length ≤ sizeLine) (q : ∀ p, H p = none → Q (.ref p) (upd H p (.tup xs))) : mkT xs H Q := ⟨h, q⟩
theorem g_mkL (h : xs.length ≤ sizeLine) (q : ∀ p, H p = none → Q (.ref p) (upd H p (.lst xs))) : mkL xs H Q := ⟨h, q⟩
theorem g_call (q : tA σ H fun vs H1 => sp vs H1 Q E) : tCall sp [] E tA σ H Q := by
  show tA σ H fun vs H1 => sp (vs ++ []) H1 Q E
  simp only [List.append_nil]
  exact q
theorem g_fld (q : ta σ H fun x H1 => fldR K f x H1 Q) : tFld K ta f σ H Q := q
theorem g_fldR (h : H a = some (.ins C dx fs)) (c : Cls K C) (na : NoAttr K C f) (hl : fs.lookup f = some v) (q : Q v H) : fldR K f (.ref a) H Q := ⟨a, C, dx, fs, v, rfl, h, c, na, hl, q⟩
theorem g_meth (q : ta σ H fun x H1 => insR C m x H1 (tA σ H1 fun vs H2 => sp (x :: vs) H2 Q E)) : tMeth C m sp [] E ta tA σ H Q := by
  show ta σ H fun x H1 => ∃ a dx fs, x = .ref a ∧ H1 a = some (.ins C dx fs) ∧ fs.lookup m = none ∧ tA σ H1 fun vs H2 => sp (x :: (vs ++ [])) H2 Q E
  simp only [List.append_nil]
  exact q
theorem g_insR (h : H a = some (.ins C dx fs)) (hl : fs.lookup m = none) (q : A) : insR C m (.ref a) H A := ⟨a, dx, fs, rfl, h, hl, q⟩
theorem g_make (q : tA σ H fun vs H1 => ∀ x dx, H1 x = none → H1 dx = none → dx ≠ x → sp (.ref x :: vs) (upd (upd H1 dx (.own x)) x (.ins C dx [])) (fun v H2 => v = .non ∧ Q (.ref x) H2) E) : tMake C sp [] E tA σ H Q := by
  show tA σ H fun vs H1 => ∀ x dx, H1 x = none → H1 dx = none → dx ≠ x → sp (.ref x :: (vs ++ [])) (upd (upd H1 dx (.own x)) x (.ins C dx [])) (fun v H2 => v = .non ∧ Q (.ref x) H2) E
  simp only [List.append_nil]
  exact q
theorem g_cb {r : List V → Hp → VK → Prop} (q : tA σ H fun vs H1 => r vs H1 Q) : tCB r tA σ H Q := q
theorem g_bm {T : String} {r : V → List V → Hp → VK → Prop} (q : to σ H fun x H1 => tyV K T x H1 ∧ tA σ H1 fun xs H2 => r x xs H2 Q) : tBM K T r to tA σ H Q := q
theorem sz (h : Nat.ble xs.length 1000 = true) : xs.length ≤ sizeLine := Nat.le_trans (Nat.le_of_ble_eq_true h) (by decide)
theorem szl (h : Nat.ble xs.length 1000 = true) : xs.length < sizeLine := Nat.lt_of_le_of_lt (Nat.le_of_ble_eq_true h) (by decide)
/-! statements -/
theorem g_seq (q : s1 ⟨s2 ⟨N, R, Bk, Ct⟩, R, Bk, Ct⟩ σ H) : tSeq s1 s2 ⟨N, R, Bk, Ct⟩ σ H := q
theorem g_asg (q : te σ H fun x H1 => gt x σ H1 N) : tAsg te gt ⟨N, R, Bk, Ct⟩ σ H := q
theorem g_name {k : Nat} (q : N (σ.set k (some v)) H) : gName k v σ H N := q
theorem g_drop (q : te σ H fun _ H1 => N σ H1) : tDrop te ⟨N, R, Bk, Ct⟩ σ H := q
theorem g_ret (q : te σ H R) : tRet te ⟨N, R, Bk, Ct⟩ σ H := q
theorem g_retN (q : R .non H) : tRetN ⟨N, R, Bk, Ct⟩ σ H := q
theorem g_next (q : N σ H) : tNext ⟨N, R, Bk, Ct⟩ σ H := q
theorem g_brk (q : Bk σ H) : tBreak ⟨N, R, Bk, Ct⟩ σ H := q
theorem g_cnt (q : Ct σ H) : tCont ⟨N, R, Bk, Ct⟩ σ H := q
theorem g_ifs (q : t σ H fun b H1 => br b (s1 ⟨N, R, Bk, Ct⟩ σ H1) (s2 ⟨N, R, Bk, Ct⟩ σ H1)) : tIfS t s1 s2 ⟨N, R, Bk, Ct⟩ σ H := q
theorem g_par {k l : Nat} (q : tA σ H fun vs H1 => ∃ v w, vs = [v, w] ∧ N ((σ.set k (some v)).set l (some w)) H1) : tPar k l tA ⟨N, R, Bk, Ct⟩ σ H := q
theorem g_par2 {k l : Nat} {w : V} (q : N ((σ.set k (some v)).set l (some w)) H) : ∃ v' w', [v, w] = [v', w'] ∧ N ((σ.set k (some v')).set l (some w')) H := ⟨v, w, rfl, q⟩
theorem g_fldS (q : tv σ H fun y H1 => ta σ H1 fun x H2 => stR K f y x H2 (N σ)) : sFld K ta tv f ⟨N, R, Bk, Ct⟩ σ H := q
theorem g_stR {M : Hp → Prop} (h : H a = some (.ins C dx fs)) (c : Cls K C) (na : NoAttr K C f) (hl : fs.length < 1000) (q : M (upd H a (.ins C dx (putF f y fs)))) : stR K f y (.ref a) H M := ⟨a, C, dx, fs, rfl, h, c, na, hl, q⟩
/-! ways -/
theorem br_t (q : A) : br true A B := q
theorem br_f (q : B) : br false A B := (by show (if false = true then A else B); rw [if_neg Bool.false_ne_true]; exact q)
theorem br_d {c : Prop} [Decidable c] (h1 : c → A) (h2 : ¬ c → B) : br (decide c) A B := by
  unfold br
  by_cases h : c
  · rw [if_pos (decide_eq_true h)]; exact h1 h
  · rw [if_neg (by rw [decide_eq_false h]; exact Bool.false_ne_true)]; exact h2 h
theorem br_nd {c : Prop} [Decidable c] (h1 : ¬ c → A) (h2 : c → B) : br (!decide c) A B := by
  unfold br
  by_cases h : c
  · rw [if_neg (by rw [decide_eq_true h]; exact Bool.false_ne_true)]; exact h2 h
  · rw [if_pos (by rw [decide_eq_false h]; rfl)]; exact h1 h
theorem br_b {c : Bool} (h1 : c = true → A) (h2 : c = false → B) : br c A B := by
  cases c with
  | true => exact h1 rfl
  | false => exact br_f (h2 rfl)
theorem br_nb {c : Bool} (h1 : c = false → A) (h2 : c = true → B) : br (!c) A B := by
  cases c with
  | true => exact br_f (h2 rfl)
  | false => exact h1 rfl
theorem br_T {c : Prop} [Decidable c] (h : c) (q : A) : br (decide c) A B := br_d (fun _ => q) fun z => absurd h z
theorem br_F {c : Prop} [Decidable c] (h : ¬ c) (q : B) : br (decide c) A B := br_d (fun z => absurd z h) fun _ => q
theorem br_NT {c : Prop} [Decidable c] (h : c) (q : B) : br (!decide c) A B := br_nd (fun z => absurd h z) fun _ => q
theorem br_NF {c : Prop} [Decidable c] (h : ¬ c) (q : A) : br (!decide c) A B := br_nd (fun _ => q) fun z => absurd z h
/-! items -/
theorem g_ixT (h : SqT K H p xs) (ha : atI xs i = some v) (q : Q v H) : rIxT K (.ref p) (.int i) H Q := ⟨p, xs, i, v, rfl, rfl, h, ha, q⟩
theorem g_ixL (h : SqL K H p xs) (ha : atI xs i = some v) (q : Q v H) : rIxL K (.ref p) (.int i) H Q := ⟨p, xs, i, v, rfl, rfl, h, ha, q⟩
end
/-! #### builtins by names of their readings -/
def rInt : List V → Hp → VK → Prop := fun xs H Q => (∃ i, xs = [.int i] ∧ Q (.int i) H) ∨ ∃ k, xs = [.bl k] ∧ Q (.int (if k then 1 else 0)) H
def rAbs : List V → Hp → VK → Prop := fun xs H Q => ∃ i, xs = [.int i] ∧ Q (.int (if i < 0 then -i else i)) H
def rMax2 : List V → Hp → VK → Prop := fun xs H Q => ∃ i j, xs = [.int i, .int j] ∧ Q (.int (if j > i then j else i)) H
def rMin2 : List V → Hp → VK → Prop := fun xs H Q => ∃ i j, xs = [.int i, .int j] ∧ Q (.int (if j < i then j else i)) H
def rLen (K : PySem.W.Frag) : List V → Hp → VK → Prop := fun xs H Q => ∃ p ys, xs = [.ref p] ∧ (SqL K H p ys ∨ SqT K H p ys) ∧ Q (.int ys.length) H
def rTup (K : PySem.W.Frag) : List V → Hp → VK → Prop := fun xs H Q => ∃ p ys, xs = [.ref p] ∧ ((SqL K H p ys ∧ ∀ l, H l = none → Q (.ref l) (upd H l (.tup ys))) ∨ (SqT K H p ys ∧ Q (.ref p) H))
def rLst (K : PySem.W.Frag) : List V → Hp → VK → Prop := fun xs H Q => ∃ p ys, xs = [.ref p] ∧ (SqL K H p ys ∨ SqT K H p ys) ∧ ∀ l, H l = none → Q (.ref l) (upd H l (.lst ys))
section
variable {X : Cx}
theorem c_int : CallR X (.type "int") rInt := call_int1
theorem c_abs : CallR X (.builtin "abs") rAbs := call_abs
theorem c_max2 (hc : X.calm = true) : CallR X (.builtin "max") rMax2 := call_max2 hc
theorem c_min2 (hc : X.calm = true) : CallR X (.builtin "min") rMin2 := call_min2 hc
theorem c_len : CallR X (.builtin "len") (rLen X.K) := call_len_seq
theorem c_tup : CallR X (.type "tuple") (rTup X.K) := call_tuple_of
theorem c_lst : CallR X (.type "list") (rLst X.K) := call_list_of
end
section
variable {K : PySem.W.Frag} {H : Hp} {Q : VK} {i j : Int} {p : Addr} {xs : List V}
theorem g_int (q : Q (.int i) H) : rInt [.int i] H Q := .inl ⟨i, rfl, q⟩
theorem g_abs (q : Q (.int (if i < 0 then -i else i)) H) : rAbs [.int i] H Q := ⟨i, rfl, q⟩
theorem g_max2 (q : Q (.int (if j > i then j else i)) H) : rMax2 [.int i, .int j] H Q := ⟨i, j, rfl, q⟩
theorem g_min2 (q : Q (.int (if j < i then j else i)) H) : rMin2 [.int i, .int j] H Q := ⟨i, j, rfl, q⟩
theorem g_lenL (h : SqL K H p xs) (q : Q (.int xs.length) H) : rLen K [.ref p] H Q := ⟨p, xs, rfl, .inl h, q⟩
theorem g_lenT (h : SqT K H p xs) (q : Q (.int xs.length) H) : rLen K [.ref p] H Q := ⟨p, xs, rfl, .inr h, q⟩
theorem g_tupL (h : SqL K H p xs) (q : ∀ l, H l = none → Q (.ref l) (upd H l (.tup xs))) : rTup K [.ref p] H Q := ⟨p, xs, rfl, .inl ⟨h, q⟩⟩
theorem g_lstL (h : SqL K H p xs) (q : ∀ l, H l = none → Q (.ref l) (upd H l (.lst xs))) : rLst K [.ref p] H Q := ⟨p, xs, rfl, .inl h, q⟩
theorem g_lstT (h : SqT K H p xs) (q : ∀ l, H l = none → Q (.ref l) (upd H l (.lst xs))) : rLst K [.ref p] H Q := ⟨p, xs, rfl, .inr h, q⟩
end
end SH
namespace SH
open PySem PySem.Spec L2

/-! #### kinds of values -/
inductive Kd where | non | bl | int | str | lst | tup | dct
  deriving DecidableEq
def Kd.nm : Kd → String
  | .non => "NoneType"
  | .bl => "bool"
  | .int => "int"
  | .str => "str"
  | .lst => "list"
  | .tup => "tuple"
  | .dct => "dict"
inductive KdV (K : PySem.W.Frag) (H : Hp) : V → Kd → Prop where
  | non : KdV K H .non .non
  | bl (b : Bool) : KdV K H (.bl b) .bl
  | int (i : Int) : KdV K H (.int i) .int
  | str (z : Str) : KdV K H (.str z) .str
  | lst {a : Addr} {xs : List V} (h : SqL K H a xs) : KdV K H (.ref a) .lst
  | tup {a : Addr} {xs : List V} (h : SqT K H a xs) : KdV K H (.ref a) .tup
  | dct {a : Addr} {kvs : List (Key × V)} (h : H a = some (.dK kvs)) : KdV K H (.ref a) .dct
theorem KdV.ty {K : PySem.W.Frag} {H : Hp} {x : V} {k : Kd} (h : KdV K H x k) : TyX K H x (.type k.nm) := by
  cases h with
  | non => exact .base .non
  | bl b => exact .base (.bl b)
  | int i => exact .base (.int i)
  | str z => exact .base (.str z)
  | lst h =>
    rcases h with (h | ⟨o, h⟩) | ⟨o, its, n, e, c, _⟩
    · exact .base (.lst h)
    · exact .base (.frz h)
    · exact .kList e c
  | tup h =>
    rcases h with (h | ⟨o, h⟩) | ⟨o, its, n, e, c, _⟩
    · exact .base (.tup h)
    · exact .fTuple h
    · exact .kTuple e c
  | dct h => exact .base (.dK h)
def Kd.isa (k : Kd) (T : String) : Bool := (kitB k.nm T).getD false
theorem isa_int (k : Kd) : kitB k.nm "int" = some (k == .int || k == .bl) := by cases k <;> decide +kernel
theorem isa_bool (k : Kd) : kitB k.nm "bool" = some (k == .bl) := by cases k <;> decide +kernel
theorem isa_str (k : Kd) : kitB k.nm "str" = some (k == .str) := by cases k <;> decide +kernel
theorem isa_tuple (k : Kd) : kitB k.nm "tuple" = some (k == .tup) := by cases k <;> decide +kernel
section
variable {K : PySem.W.Frag} {H : Hp} {Q : VK} {x : V} {k : Kd}
theorem g_isi {T : String} {b : Bool} (h : KdV K H x k) (e : kitB k.nm T = some b) (q : Q (.bl b) H) : rIsi K [x, .ty T] H Q := ⟨x, .ty T, _, _, b, rfl, .ty T, h.ty, kit_ty e, q⟩
theorem g_isiInt (h : KdV K H x k) (q : Q (.bl (k == .int || k == .bl)) H) : rIsi K [x, .ty "int"] H Q := g_isi h (isa_int k) q
theorem g_isiBool (h : KdV K H x k) (q : Q (.bl (k == .bl)) H) : rIsi K [x, .ty "bool"] H Q := g_isi h (isa_bool k) q
theorem g_isiStr (h : KdV K H x k) (q : Q (.bl (k == .str)) H) : rIsi K [x, .ty "str"] H Q := g_isi h (isa_str k) q
theorem g_isiTup (h : KdV K H x k) (q : Q (.bl (k == .tup)) H) : rIsi K [x, .ty "tuple"] H Q := g_isi h (isa_tuple k) q
end
/-- what isinstance asks of an own class -/
structure IsOwn (K : PySem.W.Frag) (C : Addr) : Prop where
  ha : PySem.W.findIn K (.ref C) "__class__" = some (some (.builtin "object.__class__"))
  hn : PySem.W.specialIn K (.builtin "object.__class__") "__get__" = some (some (.builtin "getset_descriptor.__get__"))
  ht : PySem.W.takesIn K (.builtin "object.__class__") = some true
  hm : PySem.W.mroIn K C (.type "object") = some true
def isOwnB (K : PySem.W.Frag) (C : Addr) : Bool := decide (PySem.W.findIn K (.ref C) "__class__" = some (some (.builtin "object.__class__"))) && (decide (PySem.W.specialIn K (.builtin "object.__class__") "__get__" = some (some (.builtin "getset_descriptor.__get__"))) && (decide (PySem.W.takesIn K (.builtin "object.__class__") = some true) && decide (PySem.W.mroIn K C (.type "object") = some true)))
theorem isOwnB_ok {K : PySem.W.Frag} {C : Addr} (h : isOwnB K C = true) : IsOwn K C := by
  unfold isOwnB at h
  simp only [Bool.and_eq_true, decide_eq_true_eq] at h
  exact ⟨h.1, h.2.1, h.2.2.1, h.2.2.2⟩
/-! #### constants of the module, built-ins -/
def Ci (mg : Str → Option Value) (x : Str) (i : Int) : Prop := ∃ t, mg x = some (.int i t)
theorem pe_cint {X : Cx} {x : Str} {i : Int} {pos : Pos} (h : Ci X.mg x i) (hg : Gl X x := by rfl) (hd : (x == ("__debug__" : Str)) = false := by decide) : PE X (.Name x pos) (tC (.int i)) := by
  obtain ⟨t, h⟩ := h
  exact pe_glob hg h ⟨t, rfl⟩ hd
structure Blt (mg : Str → Option Value) : Prop where
  b_len : mg "len" = none
  b_range : mg "range" = none
  b_isinstance : mg "isinstance" = none
  b_abs : mg "abs" = none
  b_int : mg "int" = none
  b_bool : mg "bool" = none
  b_str : mg "str" = none
  b_tuple : mg "tuple" = none
  b_dict : mg "dict" = none
  b_list : mg "list" = none
  b_min : mg "min" = none
  b_max : mg "max" = none
  b_any : mg "any" = none
  b_all : mg "all" = none
  b_sum : mg "sum" = none
  b_sorted : mg "sorted" = none
  b_repr : mg "repr" = none
  b_zip : mg "zip" = none
  b_enumerate : mg "enumerate" = none
end SH
namespace SH
open PySem PySem.Spec L2
/-! #### stores, slices, dicts, loops: their steps -/
section
variable {K : PySem.W.Frag} {σ : L2.St} {H : Hp} {Q : VK} {x y v : V} {i j : Int} {ta tb tc te to tv td ty : TE} {tt u : TT} {tA tr : TA} {p a C dx : Addr} {xs ys vs : List V}
  {N : L2.St → Hp → Prop} {R : VK} {Bk Ct : L2.St → Hp → Prop} {s1 s2 : TS} {gt : TG}
theorem g_sub {M : L2.St → Hp → Prop} {t : TSet} (q : to σ H fun o H1 => ta σ H1 fun i H2 => t o i v H2 fun H3 => M σ H3) : gSub to ta t v σ H M := q
theorem g_setL {M : Hp → Prop} {k : Nat} (h : H p = some (.lst xs)) (e : ixN xs.length i = some k) (q : M (upd H p (.lst (xs.set k v)))) : rSetL (.ref p) (.int i) v H M := ⟨p, xs, i, k, rfl, rfl, h, e, q⟩
theorem g_yes {QB : Bool → Hp → Prop} (q : QB true H) : tYes σ H QB := q
/-- slices -/
def sliR (r : V → Option Int → Option Int → Hp → VK → Prop) (x : V) (l u : Option Int) (H : Hp) (Q : VK) : Prop := r x l u H Q
theorem g_sl {r : V → Option Int → Option Int → Hp → VK → Prop} {tl th : TO} (q : te σ H fun x H1 => tl σ H1 fun l H2 => th σ H2 fun u H3 => r x l u H3 Q) : tSl r te tl th σ H Q := q
theorem g_noPart {QO : Option Int → Hp → Prop} (q : QO none H) : tNoPart σ H QO := q
def intO (x : V) (H : Hp) (QO : Option Int → Hp → Prop) : Prop := ∃ i, x = .int i ∧ QO (some i) H
theorem g_part {QO : Option Int → Hp → Prop} (q : te σ H fun x H1 => intO x H1 QO) : tPart te σ H QO := q
theorem g_intO {QO : Option Int → Hp → Prop} (q : QO (some i) H) : intO (.int i) H QO := ⟨i, rfl, q⟩
theorem g_slL {lo hi : Option Int} (h : SqL K H a xs) (q : ∀ p, H p = none → Q (.ref p) (upd H p (.lst (cutV xs lo hi)))) : rSlL K (.ref a) lo hi H Q := ⟨a, xs, rfl, h, q⟩
theorem g_cat {l b : Addr} {zs : List V} (h1 : H l = some (.lst xs)) (h2 : H b = some (.lst zs)) (hz : xs.length + zs.length ≤ sizeLine) (q : ∀ p, H p = none → Q (.ref p) (upd H p (.lst (xs ++ zs)))) : rCat (.ref l) (.ref b) H Q :=
  ⟨l, b, xs, zs, rfl, rfl, h1, h2, hz, q⟩
theorem g_eqD {d e : PyData} (h1 : Dp K H x d) (h2 : Dp K H y e) (s1 : SeqAt.shaped d = true) (s2 : SeqAt.shaped e = true) (q : Q (.bl (PyData.eqv d e)) H) : rEqD K x y H Q := ⟨d, e, h1, h2, s1, s2, q⟩
theorem g_neD {d e : PyData} (h1 : Dp K H x d) (h2 : Dp K H y e) (s1 : SeqAt.shaped d = true) (s2 : SeqAt.shaped e = true) (q : Q (.bl (!PyData.eqv d e)) H) : rNeD K x y H Q := ⟨d, e, h1, h2, s1, s2, q⟩
theorem g_in {neg : Bool} (h : SqL K H p xs ∨ SqT K H p xs) (hx : flatV x = true) (ha : xs.all flatV = true) (q : Q (.bl (if neg then !inV x xs else inV x xs)) H) : rIn K neg x (.ref p) H Q := ⟨p, xs, rfl, h, hx, ha, q⟩
/-- dicts by text keys -/
def dgR (x y : V) (H : Hp) (Q : VK) : Prop := ∃ a v, x = .ref a ∧ DGet H a y (some v) ∧ Q v H
theorem g_dget (q : td σ H fun x H1 => ty σ H1 fun y H2 => dgR x y H2 Q) : tDGet td ty σ H Q := q
theorem g_dgR {kvs : List (Key × V)} {k : Str} (h : H a = some (.dK kvs)) (e : valV kvs (Sum.inr k) = some v) (q : Q v H) : dgR (.ref a) (.str k) H Q := ⟨a, v, rfl, .inl ⟨kvs, Sum.inr k, .inl h, rfl, e.symm⟩, q⟩
def dpR (v x y : V) (H : Hp) (M : Hp → Prop) : Prop := ∃ a H4, x = .ref a ∧ DPut H a y v H4 ∧ M H4
theorem g_dput (q : tv σ H fun v H1 => td σ H1 fun x H2 => ty σ H2 fun y H3 => dpR v x y H3 (N σ)) : sDPut td ty tv ⟨N, R, Bk, Ct⟩ σ H := q
theorem g_dpR {M : Hp → Prop} {kvs : List (Key × V)} {k : Str} (h : H a = some (.dK kvs)) (hl : kvs.length < sizeLine) (q : M (upd H a (.dK (putK kvs (Sum.inr k) v)))) : dpR v (.ref a) (.str k) H M := ⟨a, _, rfl, DPut.k (k := Sum.inr k) h hl, q⟩
theorem g_dnew (q : ∀ p, H p = none → Q (.ref p) (upd H p (.dK []))) : tDNewK σ H Q := q
/-- loops over a range, a list, a tuple -/
def forJ (g : TG) (tb : TS) (D : Ends) (σ : L2.St) (J : It) (H1 : Hp) : Prop := ∃ W : Nat → Nat → L2.St → Hp → Prop, (∃ m, W 0 m σ H1) ∧ ∀ i m σ H, W i m σ H →
  (J.stop i H ∧ D.nx σ H) ∨ (J.go i H ∧ ∃ N : L2.St → Hp → Prop, (∀ σ' H', N σ' H' → ∃ m', m' < m ∧ W (i + 1) m' σ' H') ∧ ∀ x H', J.yld i H x H' → g x σ H' fun σ2 H2 => tb { D with nx := N, ct := N, bk := D.nx } σ2 H2)
def forR (vs : List V) (H : Hp) (g : TG) (tb : TS) (D : Ends) (σ : L2.St) : Prop := ∃ j : Int, vs = [.int j] ∧ -(2 ^ 62) ≤ j ∧ j < 2 ^ 62 ∧ forJ g tb D σ (Itr 0 j.toNat) H
def forL (K : PySem.W.Frag) (x : V) (H : Hp) (g : TG) (tb : TS) (D : Ends) (σ : L2.St) : Prop := ∃ a, x = .ref a ∧ (∃ xs, SqL K H a xs) ∧ forJ g tb D σ (Itl K a) H
def forT (K : PySem.W.Frag) (x : V) (H : Hp) (g : TG) (tb : TS) (D : Ends) (σ : L2.St) : Prop := ∃ a, x = .ref a ∧ (∃ xs, SqT K H a xs) ∧ forJ g tb D σ (Itt K a) H
theorem g_forR (q : tA σ H fun vs H1 => forR vs H1 gt s1 ⟨N, R, Bk, Ct⟩ σ) : tFor (iRng1 tA) gt s1 ⟨N, R, Bk, Ct⟩ σ H := q
theorem g_forL (q : te σ H fun x H1 => forL K x H1 gt s1 ⟨N, R, Bk, Ct⟩ σ) : tFor (iList K te) gt s1 ⟨N, R, Bk, Ct⟩ σ H := q
theorem g_forT (q : te σ H fun x H1 => forT K x H1 gt s1 ⟨N, R, Bk, Ct⟩ σ) : tFor (iTup K te) gt s1 ⟨N, R, Bk, Ct⟩ σ H := q
theorem forR_mk {n : Int} {k : Nat} (Pv : Nat → L2.St → Hp → Prop) (b : -(2 ^ 62) ≤ n ∧ n < 2 ^ 62) (h0 : Pv 0 σ H) (hs : ∀ i σ H, i < n.toNat → Pv i σ H → s1 ⟨Pv (i + 1), R, N, Pv (i + 1)⟩ (σ.set k (some (.int (i : Int)))) H) (hd : ∀ σ H, Pv n.toNat σ H → N σ H) :
    forR [.int n] H (gName k) s1 ⟨N, R, Bk, Ct⟩ σ :=
  ⟨n, rfl, b.1, b.2, for_range (lo := 0) (n := n.toNat) (g := gName k) (D := ⟨N, R, Bk, Ct⟩) Pv h0 (fun i σ H hi p => by
    have e : (0 : Int) + (i : Int) = (i : Int) := Int.zero_add _
    show s1 ⟨Pv (i + 1), R, N, Pv (i + 1)⟩ (σ.set k (some (.int ((0 : Int) + (i : Int))))) H
    rw [e]
    exact hs i σ H hi p) hd⟩
theorem forL_mk (Pv : Nat → L2.St → Hp → Prop) (hx : SqL K H a xs) (h0 : Pv 0 σ H) (hl : ∀ i σ H, i ≤ xs.length → Pv i σ H → SqL K H a xs)
    (hs : ∀ i x σ H, xs[i]? = some x → Pv i σ H → gt x σ H fun σ2 H2 => s1 ⟨Pv (i + 1), R, N, Pv (i + 1)⟩ σ2 H2) (hd : ∀ σ H, Pv xs.length σ H → N σ H) : forL K (.ref a) H gt s1 ⟨N, R, Bk, Ct⟩ σ :=
  ⟨a, rfl, ⟨xs, hx⟩, for_list (K := K) (a := a) (xs := xs) (D := ⟨N, R, Bk, Ct⟩) Pv h0 hl hs hd⟩
theorem forT_mk (Pv : Nat → L2.St → Hp → Prop) (hx : SqT K H a xs) (h0 : Pv 0 σ H) (hl : ∀ i σ H, i ≤ xs.length → Pv i σ H → SqT K H a xs)
    (hs : ∀ i x σ H, xs[i]? = some x → Pv i σ H → gt x σ H fun σ2 H2 => s1 ⟨Pv (i + 1), R, N, Pv (i + 1)⟩ σ2 H2) (hd : ∀ σ H, Pv xs.length σ H → N σ H) : forT K (.ref a) H gt s1 ⟨N, R, Bk, Ct⟩ σ :=
  ⟨a, rfl, ⟨xs, hx⟩, for_tup (K := K) (a := a) (xs := xs) (D := ⟨N, R, Bk, Ct⟩) Pv h0 hl hs hd⟩
theorem g_gtup {M : L2.St → Hp → Prop} {t : TGs} {n : Nat} (h : SqT K H a xs) (hl : xs.length = n) (q : t xs σ H M) : gTup K n t (.ref a) σ H M := ⟨a, xs, rfl, h, hl, q⟩
theorem g_gcons {M : L2.St → Hp → Prop} {t : TG} {u : TGs} (q : t v σ H fun σ' H' => u xs σ' H' M) : gCons t u (v :: xs) σ H M := ⟨v, xs, rfl, q⟩
theorem g_gnil {M : L2.St → Hp → Prop} (q : M σ H) : gNil [] σ H M := ⟨rfl, q⟩
/-- a while, its measure -/
def whN (W : Nat → L2.St → Hp → Prop) (m : Nat) (tb : TS) (D : Ends) (σ : L2.St) (H : Hp) : Prop := ∃ N : L2.St → Hp → Prop, (∀ σ' H', N σ' H' → ∃ m', m' < m ∧ W m' σ' H') ∧ tb { D with nx := N, ct := N, bk := D.nx } σ H
theorem g_while (W : Nat → L2.St → Hp → Prop) (m : Nat) (w0 : W m σ H) (hs : ∀ m σ H, W m σ H → tt σ H fun b H1 => br b (whN W m s1 ⟨N, R, Bk, Ct⟩ σ H1) (N σ H1)) : tWhile tt s1 ⟨N, R, Bk, Ct⟩ σ H := ⟨W, ⟨m, w0⟩, hs⟩
theorem g_whN {W : Nat → L2.St → Hp → Prop} {m : Nat} (q : s1 ⟨fun σ' H' => ∃ m', m' < m ∧ W m' σ' H', R, N, fun σ' H' => ∃ m', m' < m ∧ W m' σ' H'⟩ σ H) : whN W m s1 ⟨N, R, Bk, Ct⟩ σ H := ⟨_, fun _ _ z => z, q⟩
/-! comprehensions -/
/-- one item is put behind the made list -/
def lcApp (D : Addr) (y : V) (H : Hp) (M : Hp → Prop) : Prop := ∃ acc, H D = some (.lst acc) ∧ acc.length < sizeLine ∧ M (upd H D (.lst (acc ++ [y])))
theorem g_app {D : Addr} {acc : List V} {M : Hp → Prop} (h : H D = some (.lst acc)) (hl : acc.length < sizeLine) (q : M (upd H D (.lst (acc ++ [y])))) : lcApp D y H M := ⟨acc, h, hl, q⟩
def lcJ (g : TG) (tt : TT) (te : TE) (vs : List Nat) (σ : L2.St) (Q : VK) (J : It) (H1 : Hp) : Prop := ∀ D, H1 D = none → ∃ W : Nat → Nat → Hp → Prop, (∃ m, W 0 m (upd H1 D (.lst []))) ∧ ∀ i m H, W i m H →
  (J.stop i H ∧ Q (.ref D) H) ∨ (J.go i H ∧ ∃ Nx : Hp → Prop, (∀ H', Nx H' → ∃ m', m' < m ∧ W (i + 1) m' H') ∧ ∀ x H', J.yld i H x H' → g x (wipe σ vs) H' fun σ2 H2 => wipe σ2 vs = wipe σ vs ∧ tt σ2 H2 fun b H3 =>
    if b = true then te σ2 H3 fun y H4 => ∃ acc, H4 D = some (.lst acc) ∧ acc.length < sizeLine ∧ Nx (upd H4 D (.lst (acc ++ [y]))) else Nx H3)
def lcR (vs : List V) (H : Hp) (g : TG) (tt : TT) (te : TE) (ws : List Nat) (σ : L2.St) (Q : VK) : Prop := ∃ j : Int, vs = [.int j] ∧ -(2 ^ 62) ≤ j ∧ j < 2 ^ 62 ∧ lcJ g tt te ws σ Q (Itr 0 j.toNat) H
def lcL (K : PySem.W.Frag) (x : V) (H : Hp) (g : TG) (tt : TT) (te : TE) (ws : List Nat) (σ : L2.St) (Q : VK) : Prop := ∃ a, x = .ref a ∧ (∃ xs, SqL K H a xs) ∧ lcJ g tt te ws σ Q (Itl K a) H
def lcT (K : PySem.W.Frag) (x : V) (H : Hp) (g : TG) (tt : TT) (te : TE) (ws : List Nat) (σ : L2.St) (Q : VK) : Prop := ∃ a, x = .ref a ∧ (∃ xs, SqT K H a xs) ∧ lcJ g tt te ws σ Q (Itt K a) H
theorem g_lcR {ws : List Nat} (q : tA σ H fun vs H1 => lcR vs H1 gt tt te ws σ Q) : tLc (iRng1 tA) gt tt te ws σ H Q := q
theorem g_lcL {ws : List Nat} (q : to σ H fun x H1 => lcL K x H1 gt tt te ws σ Q) : tLc (iList K to) gt tt te ws σ H Q := q
theorem g_lcT {ws : List Nat} (q : to σ H fun x H1 => lcT K x H1 gt tt te ws σ Q) : tLc (iTup K to) gt tt te ws σ H Q := q
theorem lcR_mk {n : Int} {k : Nat} {ws : List Nat} (b : -(2 ^ 62) ≤ n ∧ n < 2 ^ 62) (Pv : Addr → Nat → Hp → Prop) (h0 : ∀ D, H D = none → Pv D 0 (upd H D (.lst [])))
    (hs : ∀ D i H1, H D = none → i < n.toNat → Pv D i H1 → wipe ((wipe σ ws).set k (some (.int (i : Int)))) ws = wipe σ ws ∧ tt ((wipe σ ws).set k (some (.int (i : Int)))) H1 fun b H3 => br b (te ((wipe σ ws).set k (some (.int (i : Int)))) H3 fun y H4 => lcApp D y H4 (Pv D (i + 1))) (Pv D (i + 1) H3))
    (hd : ∀ D H1, H D = none → Pv D n.toNat H1 → Q (.ref D) H1) : lcR [.int n] H (gName k) tt te ws σ Q :=
  ⟨n, rfl, b.1, b.2, fun D hD => lc_range (lo := 0) (n := n.toNat) (g := gName k) (Pv D) (h0 D hD) (fun i H1 hi p => by
    have e : (0 : Int) + (i : Int) = (i : Int) := Int.zero_add _
    show wipe ((wipe σ ws).set k (some (.int ((0 : Int) + (i : Int))))) ws = wipe σ ws ∧ tt ((wipe σ ws).set k (some (.int ((0 : Int) + (i : Int))))) H1 _
    rw [e]
    exact hs D i H1 hD hi p) fun H1 p => hd D H1 hD p⟩
theorem lcL_mk {ws : List Nat} (Pv : Addr → Nat → Hp → Prop) (hx : SqL K H a xs) (h0 : ∀ D, H D = none → Pv D 0 (upd H D (.lst []))) (hl : ∀ D i H1, H D = none → i ≤ xs.length → Pv D i H1 → SqL K H1 a xs)
    (hs : ∀ D i x H1, H D = none → xs[i]? = some x → Pv D i H1 → gt x (wipe σ ws) H1 fun σ2 H2 => wipe σ2 ws = wipe σ ws ∧ tt σ2 H2 fun b H3 => br b (te σ2 H3 fun y H4 => lcApp D y H4 (Pv D (i + 1))) (Pv D (i + 1) H3))
    (hd : ∀ D H1, H D = none → Pv D xs.length H1 → Q (.ref D) H1) : lcL K (.ref a) H gt tt te ws σ Q :=
  ⟨a, rfl, ⟨xs, hx⟩, fun D hD => lc_list (K := K) (a := a) (xs := xs) (Pv D) (h0 D hD) (fun i H1 hi p => hl D i H1 hD hi p) (fun i x H1 hi p => hs D i x H1 hD hi p) fun H1 p => hd D H1 hD p⟩
theorem lcT_mk {ws : List Nat} (Pv : Addr → Nat → Hp → Prop) (hx : SqT K H a xs) (h0 : ∀ D, H D = none → Pv D 0 (upd H D (.lst []))) (hl : ∀ D i H1, H D = none → i ≤ xs.length → Pv D i H1 → SqT K H1 a xs)
    (hs : ∀ D i x H1, H D = none → xs[i]? = some x → Pv D i H1 → gt x (wipe σ ws) H1 fun σ2 H2 => wipe σ2 ws = wipe σ ws ∧ tt σ2 H2 fun b H3 => br b (te σ2 H3 fun y H4 => lcApp D y H4 (Pv D (i + 1))) (Pv D (i + 1) H3))
    (hd : ∀ D H1, H D = none → Pv D xs.length H1 → Q (.ref D) H1) : lcT K (.ref a) H gt tt te ws σ Q :=
  ⟨a, rfl, ⟨xs, hx⟩, fun D hD => lc_tup (K := K) (a := a) (xs := xs) (Pv D) (h0 D hD) (fun i H1 hi p => hl D i H1 hD hi p) (fun i x H1 hi p => hs D i x H1 hD hi p) fun H1 p => hd D H1 hD p⟩
/-- a comprehension that changes nothing: the list of f x, where test x -/
theorem lcL_pure {ws : List Nat} {j : Nat} (f : V → V) (c : V → Bool) (hx : SqL K H a xs) (hz : xs.length < sizeLine) (hw : ∀ x, wipe ((wipe σ ws).set j (some x)) ws = wipe σ ws)
    (ht : ∀ x H1, x ∈ xs → Off [] H H1 → ∀ M : Bool → Hp → Prop, (∀ H2, Off [] H1 H2 → M (c x) H2) → tt ((wipe σ ws).set j (some x)) H1 M)
    (he : ∀ x H1, x ∈ xs → c x = true → Off [] H H1 → ∀ M : V → Hp → Prop, (∀ H2, Off [] H1 H2 → M (f x) H2) → te ((wipe σ ws).set j (some x)) H1 M)
    (q : ∀ D H1, H D = none → Off [] H H1 → H1 D = some (.lst ((xs.filter c).map f)) → Q (.ref D) H1) : lcL K (.ref a) H (gName j) tt te ws σ Q := by
  refine lcL_mk (fun D i H1 => Off [] H H1 ∧ H1 D = some (.lst (((xs.take i).filter c).map f))) hx (fun D hD => ⟨.new hD, by simp [upd_same]⟩) (fun D i H1 hD hi p => p.1.seqL nin_nil hx) (fun D i x H1 hD hi p => ?_) (fun D H1 hD p => q D H1 hD p.1 (by rw [p.2, List.take_length]))
  obtain ⟨p1, p2⟩ := p
  have hxm : x ∈ xs := List.mem_of_getElem? hi
  have et : xs.take (i + 1) = xs.take i ++ [x] := by rw [List.take_add_one, hi]; rfl
  refine ⟨hw x, ht x H1 hxm p1 _ fun H2 o2 => ?_⟩
  cases hc : c x with
  | true =>
    refine br_t (he x H2 hxm hc (p1.trans o2) _ fun H3 o3 => ?_)
    have hD3 : H3 D = some (.lst (((xs.take i).filter c).map f)) := o3.at nin_nil (o2.at nin_nil p2)
    have hl : (((xs.take i).filter c).map f).length < sizeLine := by
      rw [List.length_map]
      refine Nat.lt_of_le_of_lt (Nat.le_trans (List.length_filter_le ..) ?_) hz
      rw [List.length_take]
      omega
    refine g_app hD3 hl ⟨?_, ?_⟩
    · have o := (p1.trans o2).trans o3
      refine ⟨fun b u n e => ?_, fun b u e => ?_, fun b u v e => ?_, fun b u e => ?_⟩
      · rw [upd_ne (ne_of_none e hD)]; exact o.keep b u n e
      · rw [upd_ne (ne_of_none e hD)]; exact o.tups b u e
      · rw [upd_ne (ne_of_none e hD)]; exact o.frzs b u v e
      · rw [upd_ne (ne_of_none e hD)]; exact o.live b u e
    · rw [upd_same, et, List.filter_append, List.map_append]
      simp [hc]
  | false =>
    refine br_f ⟨p1.trans o2, ?_⟩
    rw [o2.at nin_nil p2, et, List.filter_append, List.map_append]
    simp [hc]
theorem lcT_pure {ws : List Nat} {j : Nat} (f : V → V) (c : V → Bool) (hx : SqT K H a xs) (hz : xs.length < sizeLine) (hw : ∀ x, wipe ((wipe σ ws).set j (some x)) ws = wipe σ ws)
    (ht : ∀ x H1, x ∈ xs → Off [] H H1 → ∀ M : Bool → Hp → Prop, (∀ H2, Off [] H1 H2 → M (c x) H2) → tt ((wipe σ ws).set j (some x)) H1 M)
    (he : ∀ x H1, x ∈ xs → c x = true → Off [] H H1 → ∀ M : V → Hp → Prop, (∀ H2, Off [] H1 H2 → M (f x) H2) → te ((wipe σ ws).set j (some x)) H1 M)
    (q : ∀ D H1, H D = none → Off [] H H1 → H1 D = some (.lst ((xs.filter c).map f)) → Q (.ref D) H1) : lcT K (.ref a) H (gName j) tt te ws σ Q := by
  refine lcT_mk (fun D i H1 => Off [] H H1 ∧ H1 D = some (.lst (((xs.take i).filter c).map f))) hx (fun D hD => ⟨.new hD, by simp [upd_same]⟩) (fun D i H1 hD hi p => p.1.seqT hx) (fun D i x H1 hD hi p => ?_) (fun D H1 hD p => q D H1 hD p.1 (by rw [p.2, List.take_length]))
  obtain ⟨p1, p2⟩ := p
  have hxm : x ∈ xs := List.mem_of_getElem? hi
  have et : xs.take (i + 1) = xs.take i ++ [x] := by rw [List.take_add_one, hi]; rfl
  refine ⟨hw x, ht x H1 hxm p1 _ fun H2 o2 => ?_⟩
  cases hc : c x with
  | true =>
    refine br_t (he x H2 hxm hc (p1.trans o2) _ fun H3 o3 => ?_)
    have hD3 : H3 D = some (.lst (((xs.take i).filter c).map f)) := o3.at nin_nil (o2.at nin_nil p2)
    have hl : (((xs.take i).filter c).map f).length < sizeLine := by
      rw [List.length_map]
      refine Nat.lt_of_le_of_lt (Nat.le_trans (List.length_filter_le ..) ?_) hz
      rw [List.length_take]
      omega
    refine g_app hD3 hl ⟨?_, ?_⟩
    · have o := (p1.trans o2).trans o3
      refine ⟨fun b u n e => ?_, fun b u e => ?_, fun b u v e => ?_, fun b u e => ?_⟩
      · rw [upd_ne (ne_of_none e hD)]; exact o.keep b u n e
      · rw [upd_ne (ne_of_none e hD)]; exact o.tups b u e
      · rw [upd_ne (ne_of_none e hD)]; exact o.frzs b u v e
      · rw [upd_ne (ne_of_none e hD)]; exact o.live b u e
    · rw [upd_same, et, List.filter_append, List.map_append]
      simp [hc]
  | false =>
    refine br_f ⟨p1.trans o2, ?_⟩
    rw [o2.at nin_nil p2, et, List.filter_append, List.map_append]
    simp [hc]
end
end SH
namespace SH
open PySem PySem.Spec L2
/-! #### a statement, then the rest with a word between -/
def tCut (t u : TS) : TS := fun D σ H => ∃ Mid : L2.St → Hp → Prop, t { D with nx := Mid } σ H ∧ ∀ σ' H', Mid σ' H' → u D σ' H'
theorem pss_cut {X : Cx} {st : Stmt} {rest : List Stmt} {t u : TS} (h1 : PS X st t) (h2 : PSs X rest u) : PSs X (st :: rest) (tCut t u) := by
  refine ⟨fun pins s σ H D I h => ?_⟩
  obtain ⟨Mid, hm, hu⟩ := h
  refine wpAny_execs_cons (thn (h1.run pins s σ H { D with nx := Mid } I hm) fun f s1 q => ?_)
  cases f with
  | next =>
    obtain ⟨σ', H', I', q⟩ := q
    exact h2.run pins s1 σ' H' D I' (hu σ' H' q)
  | ret v => exact q
  | brk => exact q
  | cont => exact q
theorem g_cut {t u : TS} {N R Bk Ct} {σ : L2.St} {H : Hp} (Mid : L2.St → Hp → Prop) (h : t ⟨Mid, R, Bk, Ct⟩ σ H) (k : ∀ σ' H', Mid σ' H' → u ⟨N, R, Bk, Ct⟩ σ' H') : tCut t u ⟨N, R, Bk, Ct⟩ σ H := ⟨Mid, h, k⟩
theorem atI_nat' {α : Type} {xs : List α} {i : Int} (h0 : 0 ≤ i) (h1 : i < xs.length) : ∃ v, atI xs i = some v ∧ v ∈ xs ∧ xs[i.toNat]? = some v := by
  unfold atI ixN
  rw [if_pos h0, if_pos h1]
  have h : i.toNat < xs.length := by omega
  exact ⟨xs[i.toNat], by simp [h], List.getElem_mem h, by simp [h]⟩
theorem atI_refs {bs : List Addr} {b : Nat} {a : Addr} (h : bs[b]? = some a) : atI (bs.map V.ref) (b : Int) = some (.ref a) := by
  have hl : b < bs.length := (List.getElem?_eq_some_iff.mp h).1
  unfold atI ixN
  rw [if_pos (by omega), if_pos (by rw [List.length_map]; omega)]
  simp [h]
theorem g_dpR' {M : Hp → Prop} {kvs kvs' : List (Key × V)} {k : Str} {a : Addr} {v : V} {H : Hp} (h : H a = some (.dK kvs)) (e : putK kvs (Sum.inr k) v = kvs') (hl : kvs.length < sizeLine) (q : M (upd H a (.dK kvs'))) : dpR v (.ref a) (.str k) H M := g_dpR h hl (by rw [e]; exact q)
theorem cutV_len (xs : List V) (lo hi : Option Int) : (cutV xs lo hi).length ≤ xs.length := by
  unfold cutV
  rw [List.length_take, List.length_drop]
  omega
theorem mem_cutV {xs : List V} {lo hi : Option Int} {v : V} (h : v ∈ cutV xs lo hi) : v ∈ xs := List.mem_of_mem_drop (List.mem_of_mem_take h)
theorem Off.mut {S : List Addr} {H H1 : Hp} {p : Addr} {o : HO} (x : Off S H H1) (h : H p = none) : Off S H (upd H1 p o) := by
  refine ⟨fun b u n e => ?_, fun b u e => ?_, fun b u v e => ?_, fun b u e => ?_⟩
  · rw [upd_ne (ne_of_none e h)]; exact x.keep b u n e
  · rw [upd_ne (ne_of_none e h)]; exact x.tups b u e
  · rw [upd_ne (ne_of_none e h)]; exact x.frzs b u v e
  · rw [upd_ne (ne_of_none e h)]; exact x.live b u e
theorem Off.trans' {S S' : List Addr} {H H1 H2 : Hp} (x : Off S H H1) (y : Off S' H1 H2) (h : ∀ a ∈ S', a ∈ S) : Off S H H2 := x.trans (y.mono h)
theorem Off.put2 {S : List Addr} {H H1 : Hp} {p : Addr} {o u : HO} (x : Off S H H1) (hm : p ∈ S) (h : H1 p = some u) (hu : Mut (some u)) : Off S H (upd H1 p o) := x.trans (.put hm h hu)
theorem seqT_new {K : PySem.W.Frag} {H : Hp} {a p : Addr} {xs : List V} {o : HO} (h : SqT K H a xs) (hp : H p = none) : SqT K (upd H p o) a xs := (Off.new (S := []) hp).seqT h
theorem seqL_new {K : PySem.W.Frag} {H : Hp} {a p : Addr} {xs : List V} {o : HO} (h : SqL K H a xs) (hp : H p = none) : SqL K (upd H p o) a xs := (Off.new (S := []) hp).seqL nin_nil h
theorem Off.new2 {S : List Addr} {H H1 : Hp} {p : Addr} {o : HO} (x : Off S H H1) (h : H1 p = none) : Off S H (upd H1 p o) := x.trans (.new h)
end SH
end

section
namespace SH
open PySem PySem.Spec PyProof.Rows L2
/-! #### max, min, sum of a tuple of ints -/
section
variable {prog : Program} {w : World} {A : Around} {E : Value → Shared → Prop} {s : Shared} {l : Addr} {xs : Array (Int × Tok)}
theorem iter_intTup {Q : Value → Shared → Prop} (hl : s.heap.IsTuple l (intItems xs))
    (h : ∀ s₂ : Shared, s₂ = { s with heap := s.heap.push { cls := .type "tuple_iterator", data := .fields #[.ref l, .int 0 0] } } →
      (s₂.heap.IsTupleIter s.heap.objs.size l 0 ∧ s₂.heap.IsTuple l (intItems xs)) → (∀ b ∈ [s.heap.objs.size, l], b < s₂.heap.objs.size) → l ≠ s.heap.objs.size → Q (.ref s.heap.objs.size) s₂) :
    wpAny (model prog w) A (pyIter (.ref l)) Q E s := by
  have hlt : l < s.heap.objs.size := by obtain ⟨_, e, _⟩ := hl; exact Heap.lt_size e
  refine wpAny_pyIter_tuple hl (h _ rfl ⟨⟨_, Heap.get?_push_size _ rfl, rfl, rfl⟩, hl.push _⟩ (fun b hb => ?_) (Nat.ne_of_lt hlt))
  show b < (s.heap.push _).objs.size
  rw [Heap.size_push]
  rcases List.mem_cons.mp hb with rfl | hb
  · exact Nat.lt_succ_self _
  · rcases List.mem_cons.mp hb with rfl | hb
    · exact Nat.lt_succ_of_lt hlt
    · cases hb
theorem old_keptT {h' : Heap} (hk : ∀ b o, b ∉ [s.heap.objs.size] → (s.heap.push { cls := .type "tuple_iterator", data := .fields #[.ref l, .int 0 0] }).get? b = some o → h'.get? b = some o) :
    ∀ b o, s.heap.get? b = some o → h'.get? b = some o := fun b o e => by
  refine hk b o (fun hm => ?_) (Heap.get?_push_of_some _ e)
  rcases List.mem_cons.mp hm with e1 | hm
  · exact absurd (e1 ▸ Heap.lt_size e) (Nat.lt_irrefl _)
  · cases hm
theorem max_intTup {Q : Value → Shared → Prop} (hh : A.handled = none) (hl : s.heap.IsTuple l (intItems xs)) (hne : 0 < xs.size)
    (h : ∀ v h' tk, (intItems xs)[argBest (fun i j => decide (numAt xs i > numAt xs j)) (xs.size - 1)]? = some v → (∀ b o, s.heap.get? b = some o → h'.get? b = some o) → Q v { s with heap := h', toks := tk }) :
    wpAny (model prog w) A (call (.builtin "max") [.ref l]) Q E s := by
  refine call_max_walk (iter_intTup hl fun s₂ e st hfp hlI => ?_)
  subst e
  refine ⟨_, _, _, _, _, _, _, rfl, Walks.tuple (A := A.in1) hh _ l hlI (intItems xs), st, hfp, by simpa [intItems] using hne, CmpOf.ints_gt (numAt xs) (fun _ _ => intItems_at), fun v h' tk hP hk => ?_⟩
  exact h v h' tk (by simpa [intItems] using hP) (old_keptT hk)
theorem sum_intTup {Q : Value → Shared → Prop} (hh : A.handled = none) (hl : s.heap.IsTuple l (intItems xs)) (hfit : ∀ j, j < xs.size → InLong (numAt xs j) ∧ InLong (preSum (numAt xs) (j + 1)))
    (h : ∀ h' tk t', (∀ b o, s.heap.get? b = some o → h'.get? b = some o) → Q (.int (preSum (numAt xs) xs.size) t') { s with heap := h', toks := tk }) :
    wpAny (model prog w) A (call (.builtin "sum") [.ref l]) Q E s := by
  refine call_sum_walk (iter_intTup hl fun s₂ e st hfp hlI => ?_)
  subst e
  refine ⟨_, _, _, _, _, _, numAt xs, rfl, Walks.tuple (A := A.in1) hh _ l hlI (intItems xs), st, hfp, (fun _ _ => intItems_at), (fun j hj => hfit j (by simpa [intItems] using hj)), fun h' tk t' hk => ?_⟩
  have := h h' tk t' (old_keptT hk)
  simpa [intItems] using this
theorem max_rawT {its : List Value} {ns : List Int} {Q : Value → Shared → Prop} (hh : A.handled = none) (hl : s.heap.IsTuple l its.toArray) (hi : IntsAre its ns) (hne : 0 < ns.length)
    (h : ∀ h' tk M t', (∀ b o, s.heap.get? b = some o → h'.get? b = some o) → M ∈ ns → (∀ a, a ∈ ns → a ≤ M) → Q (.int M t') { s with heap := h', toks := tk }) : wpAny (model prog w) A (call (.builtin "max") [.ref l]) Q E s := by
  obtain ⟨xs, e⟩ := hi.allInts.items
  have hn : numsOf (intItems xs).toList = ns := by rw [← e]; exact hi.numsOf
  rw [nums_intItems] at hn
  subst hn
  rw [e] at hl
  have hsz : 0 < xs.size := by simpa using hne
  refine max_intTup hh hl hsz fun v h' tk hv hk => ?_
  obtain ⟨t, rfl⟩ := intItems_at hv
  obtain ⟨h1, h2⟩ := argBest_gt (numAt xs) (xs.size - 1)
  refine h h' tk _ t hk ?_ fun a ha => ?_
  · rw [numAt_eq]; exact PySem.getD_mem (by rw [List.length_map, Array.length_toList]; omega)
  · obtain ⟨j, hj, rfl⟩ := mem_getD ha
    rw [List.length_map, Array.length_toList] at hj
    rw [← numAt_eq]; exact h2 j (by omega)
end
def rMaxT (K : PySem.W.Frag) : List V → Hp → VK → Prop := fun vs H Q => ∃ (a : Addr) (ns : List Int), vs = [V.ref a] ∧ SqT K H a (ns.map V.int) ∧ 0 < ns.length ∧ ∀ m, m ∈ ns → (∀ y, y ∈ ns → y ≤ m) → Q (.int m) H
theorem cr_maxT {X : Cx} (hc : X.calm = true) : CallR X (.builtin "max") (rMaxT X.K) := by
  intro pins s σ H vs us Q I r h
  obtain ⟨a, ns, rfl, hs, hne, q⟩ := h
  obtain ⟨its, rv, hl, _⟩ := I.tuple hs
  rw [Vals.ref1 r]
  exact max_rawT (I.ok.hd hc) hl rv.ints hne fun h' tk m t' hk h1 h2 => ⟨.int _, H, I.kept hk, ⟨_, rfl⟩, q m h1 h2⟩
end SH
end

section
namespace SH
open PySem PySem.Spec PyProof.Rows L2
/-! #### the rules with the written part named (within a comprehension's block it is the def's own) -/
section
variable {X : Cx} {K : PySem.W.Frag}
theorem ix_listK (h : X.K = K) : IxR X (rIxL K) := by subst h; exact ix_list
theorem ix_tupK (h : X.K = K) : IxR X (rIxT K) := by subst h; exact ix_tup
theorem c_lenK (h : X.K = K) : CallR X (.builtin "len") (rLen K) := by subst h; exact c_len
theorem c_tupK (h : X.K = K) : CallR X (.type "tuple") (rTup K) := by subst h; exact c_tup
theorem c_lstK (h : X.K = K) : CallR X (.type "list") (rLst K) := by subst h; exact c_lst
theorem sl_listK (h : X.K = K) : SlR X (rSlL K) := by subst h; exact sl_list
theorem op_in_seqK (h : X.K = K) : OpR X (compareOp .In) (rIn K false) := by subst h; exact op_in_seq
theorem op_notIn_seqK (h : X.K = K) : OpR X (compareOp .NotIn) (rIn K true) := by subst h; exact op_notIn_seq
theorem op_eqDK (h : X.K = K) (hu : X.A.units + 64 < cLine) : OpR X (compareOp .Eq) (rEqD K) := by subst h; exact op_eqD hu
theorem op_neDK (h : X.K = K) (hu : X.A.units + 64 < cLine) : OpR X (compareOp .NotEq) (rNeD K) := by subst h; exact op_neD hu
theorem call_isiK' (h : X.K = K) : CallR X (.builtin "isinstance") (rIsi K) := by subst h; exact call_isi
theorem cr_anyK (h : X.K = K) (hc : X.calm = true) : CallR X (.builtin "any") (rAny K) := by subst h; exact cr_any hc
theorem cr_allK (h : X.K = K) (hc : X.calm = true) : CallR X (.builtin "all") (rAll K) := by subst h; exact cr_all hc
theorem cr_sumK (h : X.K = K) (hc : X.calm = true) : CallR X (.builtin "sum") (rSum K) := by subst h; exact cr_sum hc
theorem cr_maxK (h : X.K = K) (hc : X.calm = true) : CallR X (.builtin "max") (rMax K) := by subst h; exact cr_max hc
theorem cr_maxTK (h : X.K = K) (hc : X.calm = true) : CallR X (.builtin "max") (rMaxT K) := by subst h; exact cr_maxT hc
theorem cr_sortedK (h : X.K = K) : CallR X (.builtin "sorted") (rSorted K) := by subst h; exact cr_sorted
theorem cr_sortedSK (h : X.K = K) : CallR X (.builtin "sorted") (rSortedS K) := by subst h; exact cr_sortedS
variable {e o : Expr} {es : List Expr} {ta to te : TE} {t : TA} {f name : Str} {id T : String} {r : V → List V → Hp → VK → Prop} {pos apos cpos : Pos} {tg iter l : Expr} {n k : Nat} {tgs : TGs}
theorem pe_fldK (h : X.K = K) (he : PE X e ta) (hb : attributeBase e f X.env (eval e X.env) = eval e X.env) : PE X (.Attribute e f pos) (tFld K ta f) := by subst h; exact pe_fld he hb
theorem pi_listK (h : X.K = K) (hl : PE X l te) : PI X tg l (iList K te) := by subst h; exact pi_list hl
theorem pi_tupK (h : X.K = K) (hl : PE X l te) : PI X tg l (iTup K te) := by subst h; exact pi_tup hl
theorem pg_tupK (h : X.K = K) (hc : X.calm = true) (hg : PGs X es tgs) (hn : (assignEach es X.env).length = n := by rfl) (hst : (assignEach es X.env).findIdx? (·.1) = none := by rfl) : PG X (.Tuple es k pos) (gTup K n tgs) := by
  subst h; exact pg_tup hc hg hn hst
theorem pe_bmK (h : X.K = K) (pa : PlainAttrs T) (slot : Slot T name id) (hty : typeOf (.builtin id) = pure (.type "method_descriptor")) (hm : MtR X id r) (ho : PE X o to) (ha : PA X (e :: es) t)
    (hbase : attributeBase o name X.env (eval o X.env) = eval o X.env := by rfl)
    (hfew : ((backTo cpos (starEach (e :: es) X.env)).all (fun x => !x.1) && (backToKw cpos (keywordEach [] X.env)).all (fun x => x.1.isSome)
      && decide ((e :: es).length + ([] : List Keyword).length + (if ([] : List Keyword).isEmpty then 0 else 1) < 30)) = true := by rfl)
    (hline : (apos.endLine == cpos.line) = true := by rfl) (hs : starEach (e :: es) X.env = (false, eval e X.env) :: starEach es X.env := by rfl) (hplain : (backTo cpos (starEach es X.env)).any (·.1) = false := by rfl) :
    PE X (.Call (.Attribute o name apos) (e :: es) [] cpos) (tBM K T r to t) := by
  subst h; exact pe_bm pa slot hty hm ho ha hbase hfew hline hs hplain
end
end SH
end

section
namespace SH
open PySem PySem.Spec PyProof.Rows L2
/-! #### methods of own classes, attributes put anew, lists changed in place -/
section
variable {X : Cx} {x m : Str} {k : Nat} {ps : List Str} {sp : Sp} {C : Addr} {E : XK} {p pos apos : Pos} {e o : Expr} {es : List Expr} {ta : TE} {t : TA}
theorem pe_mth {pl : Sem Bool} (D : MthOk X.prog X.w X.K X.mg X.base C m k ps sp) (hr : Room k X.A) (hx : Passes (L2N.CX X.prog X.w) X E) (ho : PE X o ta) (ha : PA X (e :: es) t)
    (hst : starEach (e :: es) X.env = (false, eval e X.env) :: starEach es X.env := by rfl) (hpl : (backTo pos (starEach es X.env)).any (·.1) = false := by rfl)
    (ht : eval (.Call (.Attribute o m apos) (e :: es) [] pos) X.env = (do
      let ov ← eval o X.env
      standAt apos.atName
      let (f, first) ← holding [ov] (getMethod ov m pl)
      callWith pos f first (backTo pos (starEach (e :: es) X.env)) (backToKw pos (keywordEach [] X.env))) := by rfl) :
    PE X (.Call (.Attribute o m apos) (e :: es) [] pos) (tMeth C m sp [] E ta t) := by
  obtain ⟨f, fd, F, hm, hb, hc⟩ := D
  exact pe_meth ho hc hm F hr hb .nil hx ha hst hpl ht
theorem pe_mth0 {pl : Sem Bool} (D : MthOk X.prog X.w X.K X.mg X.base C m k ps sp) (hr : Room k X.A) (hx : Passes (L2N.CX X.prog X.w) X E) (ho : PE X o ta)
    (ht : eval (.Call (.Attribute o m apos) [] [] pos) X.env = (do
      let ov ← eval o X.env
      standAt apos.atName
      let (f, first) ← holding [ov] (getMethod ov m pl)
      callWith pos f first (backTo pos (starEach [] X.env)) (backToKw pos (keywordEach [] X.env))) := by rfl) :
    PE X (.Call (.Attribute o m apos) [] [] pos) (tMeth C m sp [] E ta tNil) := by
  obtain ⟨f, fd, F, hm, hb, hc⟩ := D
  exact pe_meth0 ho hc hm F hr hb .nil hx ht
theorem pe_mk0 (D : MkOk X.prog X.w X.K X.mg X.base x C k ps sp) (hr : Room (k + 1) X.A) (hx : Passes (L2N.CX X.prog X.w) X E) (hg : Gl X x := by rfl) (hdb : (x == ("__debug__" : Str)) = false := by decide) :
    PE X (.Call (.Name x p) [] [] pos) (tMake C sp [] E tNil) := by
  obtain ⟨f, fd, F, hm, hk, hb⟩ := D
  exact pe_make0 hm F hr hg hk hb .nil hx hdb
theorem ps_fldK {K : PySem.W.Frag} {o value : Expr} {f : Str} {pos pos' : Pos} {ta tv : TE} (h : X.K = K) (ha : PE X o ta) (hv : PE X value tv) (hs : swapsWith value (some (.Attribute o f pos')) pos.line X.env = pure false) : PS X (.Assign [.Attribute o f pos'] value pos) (sFld K ta tv f) := by
  subst h; exact ps_fld ha hv hs
theorem ps_fldaugK {K : PySem.W.Frag} {o value : Expr} {f : Str} {pos tpos : Pos} {ta tv : TE} {op : Operator} {rd : V → V → Hp → VK → Prop} (h : X.K = K) (ha : PE X o ta) (hv : PE X value tv) (hop : InOp X op rd) : PS X (.AugAssign (.Attribute o f tpos) op value pos) (sFldAug K ta tv rd f) := by
  subst h; exact ps_fldaug ha hv hop
end
section
variable {K : PySem.W.Frag} {σ : L2.St} {H : Hp} {Q : VK} {x y v : V} {i j : Int} {ta te tv : TE} {tA : TA} {a p C dx : Addr} {fs fs' : List (Str × V)} {f : Str} {xs vs : List V} {N : L2.St → Hp → Prop} {R : VK} {Bk Ct : L2.St → Hp → Prop} {M : Hp → Prop} {rd : V → V → Hp → VK → Prop}
theorem szf {α : Type} {xs : List α} (h : Nat.ble (xs.length + 1) 1000 = true) : xs.length < 1000 := by
  have := Nat.le_of_ble_eq_true h
  omega
theorem g_stA (h : H a = some (.ins C dx fs)) (c : Cls K C) (na : NoAttr K C f) (e : putF f y fs = fs') (hl : fs.length < 1000) (q : ∀ H', H' a = some (.ins C dx fs') → Off [a] H H' → M H') : stR K f y (.ref a) H M :=
  g_stR h c na hl (q _ (by rw [e]; exact upd_same) (.put (by simp) h trivial))
def putA (f : Str) (a : Addr) (M : Hp → Prop) (z : V) (H3 : Hp) : Prop := ∃ dx' fs' C, H3 a = some (.ins C dx' fs') ∧ fs'.length < 1000 ∧ M (upd H3 a (.ins C dx' (putF f z fs')))
def augR (K : PySem.W.Frag) (f : Str) (tv : TE) (rd : V → V → Hp → VK → Prop) (σ : L2.St) (M : Hp → Prop) (x : V) (H1 : Hp) : Prop := ∃ a C dx fs v, x = .ref a ∧ H1 a = some (.ins C dx fs) ∧ Cls K C ∧ NoAttr K C f ∧ fs.lookup f = some v ∧
  tv σ H1 fun y H2 => rd v y H2 fun z H3 => ∃ dx' fs', H3 a = some (.ins C dx' fs') ∧ fs'.length < 1000 ∧ M (upd H3 a (.ins C dx' (putF f z fs')))
theorem g_fldAug (q : ta σ H (augR K f tv rd σ (N σ))) : sFldAug K ta tv rd f ⟨N, R, Bk, Ct⟩ σ H := q
def putC (f : Str) (a C : Addr) (M : Hp → Prop) (z : V) (H3 : Hp) : Prop := ∃ dx' fs', H3 a = some (.ins C dx' fs') ∧ fs'.length < 1000 ∧ M (upd H3 a (.ins C dx' (putF f z fs')))
theorem g_augR (h : H a = some (.ins C dx fs)) (c : Cls K C) (na : NoAttr K C f) (l : fs.lookup f = some v) (q : tv σ H fun y H2 => rd v y H2 (putC f a C M)) : augR K f tv rd σ M (.ref a) H := ⟨a, C, dx, fs, v, rfl, h, c, na, l, q⟩
theorem g_putC {z : V} (h : H a = some (.ins C dx fs)) (e : putF f z fs = fs') (hl : fs.length < 1000) (q : ∀ H', H' a = some (.ins C dx fs') → Off [a] H H' → M H') : putC f a C M z H :=
  ⟨dx, fs, h, hl, q _ (by rw [e]; exact upd_same) (.put (by simp) h trivial)⟩
theorem g_rAdd (q : Q (.int (i + j)) H) : rAdd (.int i) (.int j) H Q := ⟨i, j, rfl, rfl, q⟩
theorem g_rSub (q : Q (.int (i - j)) H) : rSub (.int i) (.int j) H Q := ⟨i, j, rfl, rfl, q⟩
theorem g_app' (h : H a = some (.lst xs)) (hl : xs.length < sizeLine) (q : ∀ H', H' a = some (.lst (xs ++ [y])) → Off [a] H H' → Q .non H') : rAppend (.ref a) [y] H Q := ⟨a, xs, y, rfl, rfl, h, hl, q _ upd_same (.put (by simp) h trivial)⟩
theorem g_popF (h : H a = some (.lst (x :: xs))) (q : ∀ H', H' a = some (.lst xs) → Off [a] H H' → Q x H') : rPopAt (.ref a) [.int 0] H Q :=
  ⟨a, x :: xs, 0, 0, x, rfl, rfl, h, by decide, by decide, by simp [seqIndex?], rfl, q _ upd_same (.put (by simp) h trivial)⟩
theorem g_bml {r : V → List V → Hp → VK → Prop} (h : SqL K H a xs) (q : tA σ H fun xs H2 => r (.ref a) xs H2 Q) : tyV K "list" (.ref a) H ∧ tA σ H (fun xs H2 => r (.ref a) xs H2 Q) := ⟨.inl ⟨rfl, _, h⟩, q⟩
theorem g_isiOwn {C' : Addr} {b : Bool} (h : H a = some (.ins C dx fs)) (cl : Cls K C) (o : IsOwn K C) (e : PySem.W.kitOne K (.ref C) (.ref C') = some b) (q : Q (.bl b) H) : rIsi K [.ref a, .ref C'] H Q :=
  ⟨.ref a, .ref C', _, _, b, rfl, .own C', .base (.ins h cl o.ha o.hn o.ht o.hm), e, q⟩
theorem kit_self {C : Addr} : PySem.W.kitOne K (.ref C) (.ref C) = some true := by
  unfold PySem.W.kitOne
  rw [if_pos (by simp)]
theorem g_isiSelf (h : H a = some (.ins C dx fs)) (cl : Cls K C) (o : IsOwn K C) (q : Q (.bl true) H) : rIsi K [.ref a, .ref C] H Q := g_isiOwn h cl o kit_self q
theorem br_k {k : Kd} {A B : Prop} (q : A) : br (k == k) A B := by
  have e : (k == k) = true := by cases k <;> rfl
  rw [e]; exact br_t q
theorem br_nk {k : Kd} {A B : Prop} (q : B) : br (!(k == k)) A B := by
  have e : (k == k) = true := by cases k <;> rfl
  rw [e]; exact br_f q
theorem br_ntt {A B : Prop} (q : B) : br (!true) A B := br_f q
theorem br_ntf {A B : Prop} (q : A) : br (!false) A B := br_t q
theorem br_inF {A B : Prop} (h : inV x xs = false) (q : B) : br (inV x xs) A B := by rw [h]; exact br_f q
theorem br_inT {A B : Prop} (h : inV x xs = true) (q : A) : br (inV x xs) A B := by rw [h]; exact br_t q
theorem g_inT (h : SqT K H a xs) (hx : flatV x = true) (ha : xs.all flatV = true) (q : Q (.bl (inV x xs)) H) : rIn K false x (.ref a) H Q := g_in (.inr h) hx ha (by rw [if_neg (by decide)]; exact q)
end
section
variable {K : PySem.W.Frag} {σ : L2.St} {H : Hp} {Q : VK} {te : TE} {tt : TT} {gt : TG} {a : Addr} {xs : List V}
theorem lcL_at {ws : List Nat} (ys : List V) (hx : SqL K H a xs) (hl : ys.length = xs.length) (hz : xs.length < sizeLine)
    (hs : ∀ (i : Nat) (x y : V) (H1 : Hp), xs[i]? = some x → ys[i]? = some y → Off [] H H1 → ∀ (M : V → Hp → Prop) (N : Hp → Prop), (∀ H2, Off [] H1 H2 → M y H2) → gt x (wipe σ ws) H1 fun σ2 H2 => wipe σ2 ws = wipe σ ws ∧ tt σ2 H2 fun b H3 => br b (te σ2 H3 M) (N H3))
    (q : ∀ D H1, H D = none → Off [] H H1 → H1 D = some (.lst ys) → Q (.ref D) H1) : lcL K (.ref a) H gt tt te ws σ Q := by
  refine lcL_mk (fun D i H1 => Off [] H H1 ∧ H1 D = some (.lst (ys.take i))) hx (fun D hD => ⟨.new hD, by simp [upd_same]⟩) (fun D i H1 hD hi p => p.1.seqL nin_nil hx) (fun D i x H1 hD hi p => ?_) (fun D H1 hD p => q D H1 hD p.1 (by rw [p.2, ← hl, List.take_length]))
  obtain ⟨p1, p2⟩ := p
  have hlt : i < ys.length := by rw [hl]; exact (List.getElem?_eq_some_iff.mp hi).1
  have hy : ys[i]? = some ys[i] := List.getElem?_eq_getElem hlt
  refine hs i x _ H1 hi hy p1 _ _ fun H2 o2 => ?_
  refine g_app (o2.at nin_nil p2) (by rw [List.length_take]; omega) ⟨(p1.trans o2).mut hD, ?_⟩
  rw [upd_same, List.take_add_one, hy]
  rfl
theorem lcT_at {ws : List Nat} (ys : List V) (hx : SqT K H a xs) (hl : ys.length = xs.length) (hz : xs.length < sizeLine)
    (hs : ∀ (i : Nat) (x y : V) (H1 : Hp), xs[i]? = some x → ys[i]? = some y → Off [] H H1 → ∀ (M : V → Hp → Prop) (N : Hp → Prop), (∀ H2, Off [] H1 H2 → M y H2) → gt x (wipe σ ws) H1 fun σ2 H2 => wipe σ2 ws = wipe σ ws ∧ tt σ2 H2 fun b H3 => br b (te σ2 H3 M) (N H3))
    (q : ∀ D H1, H D = none → Off [] H H1 → H1 D = some (.lst ys) → Q (.ref D) H1) : lcT K (.ref a) H gt tt te ws σ Q := by
  refine lcT_mk (fun D i H1 => Off [] H H1 ∧ H1 D = some (.lst (ys.take i))) hx (fun D hD => ⟨.new hD, by simp [upd_same]⟩) (fun D i H1 hD hi p => p.1.seqT hx) (fun D i x H1 hD hi p => ?_) (fun D H1 hD p => q D H1 hD p.1 (by rw [p.2, ← hl, List.take_length]))
  obtain ⟨p1, p2⟩ := p
  have hlt : i < ys.length := by rw [hl]; exact (List.getElem?_eq_some_iff.mp hi).1
  have hy : ys[i]? = some ys[i] := List.getElem?_eq_getElem hlt
  refine hs i x _ H1 hi hy p1 _ _ fun H2 o2 => ?_
  refine g_app (o2.at nin_nil p2) (by rw [List.length_take]; omega) ⟨(p1.trans o2).mut hD, ?_⟩
  rw [upd_same, List.take_add_one, hy]
  rfl
end
end SH
end

section
namespace SH
open PySem PySem.Spec PyProof.Rows L2
/-! ### own errors that are caught -/
/-- what the class at C must say so that a caught one's field f is read, and isinstance asks it rightly -/
structure XcOk (K : PySem.W.Frag) (C : Addr) (f : Str) : Prop where
  xf : XfC K C
  nf : PySem.W.findIn K (.ref C) f = some none
  cl : (PySem.W.clsIn K C).isSome = true
  ha : PySem.W.findIn K (.ref C) "__class__" = some (some (.builtin "object.__class__"))
  hn : PySem.W.specialIn K (.builtin "object.__class__") "__get__" = some (some (.builtin "getset_descriptor.__get__"))
  ht : PySem.W.takesIn K (.builtin "object.__class__") = some true
  hm : PySem.W.mroIn K C (.type "object") = some true
def xcBs (K : PySem.W.Frag) (C : Addr) (f : Str) : List Bool := [xfB K C, decide (PySem.W.findIn K (.ref C) f = some none), (PySem.W.clsIn K C).isSome,
  decide (PySem.W.findIn K (.ref C) "__class__" = some (some (.builtin "object.__class__"))), decide (PySem.W.specialIn K (.builtin "object.__class__") "__get__" = some (some (.builtin "getset_descriptor.__get__"))),
  decide (PySem.W.takesIn K (.builtin "object.__class__") = some true), decide (PySem.W.mroIn K C (.type "object") = some true)]
def xcB (K : PySem.W.Frag) (C : Addr) (f : Str) : Bool := (xcBs K C f).all id
theorem xcB_ok {K : PySem.W.Frag} {C : Addr} {f : Str} (h : xcB K C f = true) : XcOk K C f := by
  have a : ∀ b ∈ xcBs K C f, b = true := fun b hb => List.all_eq_true.mp h b hb
  exact ⟨xfB_ok (a _ (by simp [xcBs])), of_decide_eq_true (a _ (by simp [xcBs])), a _ (by simp [xcBs]), of_decide_eq_true (a _ (by simp [xcBs])), of_decide_eq_true (a _ (by simp [xcBs])), of_decide_eq_true (a _ (by simp [xcBs])), of_decide_eq_true (a _ (by simp [xcBs]))⟩
/-- whether errors of the class at C are of that at D -/
structure XrOk (K : PySem.W.Frag) (C D : Addr) (b : Bool) : Prop where
  ex : PySem.W.exmOne K (.ref C) (.ref D) = some b
  kt : PySem.W.kitOne K (.ref C) (.ref D) = some b
def xrB (K : PySem.W.Frag) (C D : Addr) (b : Bool) : Bool := decide (PySem.W.exmOne K (.ref C) (.ref D) = some b) && decide (PySem.W.kitOne K (.ref C) (.ref D) = some b)
theorem xrB_ok {K : PySem.W.Frag} {C D : Addr} {b : Bool} (h : xrB K C D b = true) : XrOk K C D b := by
  unfold xrB at h
  rw [Bool.and_eq_true] at h
  exact ⟨of_decide_eq_true h.1, of_decide_eq_true h.2⟩
/-- isinstance(e, c), e a caught error of the class at D with a dict -/
def rIsX (K : PySem.W.Frag) (D a : Addr) (cls : Value) (d : Option Addr) : List V → Hp → VK → Prop := fun xs H Q => ∃ (C dd : Addr) (fs : List (Str × V)) (b : Bool), xs = [.ref a, .ref C] ∧ cls = .ref D ∧ d = some dd ∧ H dd = some (.xd fs) ∧ PySem.W.kitOne K (.ref D) (.ref C) = some b ∧ Q (.bl b) H
theorem call_isX {X : Cx} {a D : Addr} {f : Str} {cls : Value} {d : Option Addr} {oe : Obj} {pn : List (Addr × Obj)} (T : XcOk X.K D f) (hz : Zc cls d oe) (hf : ∃ vs, oe.data = .fields vs) :
    CallR (X.suite a ((a, oe) :: pn)) (.builtin "isinstance") (rIsX X.K D a cls d) := by
  intro pins s σ H xs us Q I r h
  obtain ⟨C, dd, fs, b, rfl, rfl, rfl, hd, e, q⟩ := h
  obtain ⟨u1, u2, rfl, rfl, rfl⟩ : ∃ u1 u2, us = [u1, u2] ∧ u1 = Value.ref a ∧ u2 = Value.ref C := by
    cases r with
    | cons r1 r2 => cases r2 with
      | cons r3 r4 =>
        cases r4
        exact ⟨_, _, rfl, r1, r3⟩
  obtain ⟨ge, _⟩ := I.pin (a, oe) (by simp)
  obtain ⟨vs, hv⟩ := hf
  obtain ⟨m, ns, _⟩ := (I.hok dd _ hd : ObjOk X.prog X.w H s.heap dd (.xd fs))
  obtain ⟨od, ho, _⟩ := lookIn_ns ns
  have J : PySem.W.InstAt s.heap a oe D (some od) := ⟨ge, hz.1, (by unfold PySem.W.notCls; rw [hv] <;> rfl), (by rw [hz.2]; exact ho)⟩
  have Z := PySem.W.kitx_exc (x := a) (ox := oe) (od := some od) T.cl T.xf.ga T.xf.gg T.xf.exC T.ha T.hn T.ht T.hm
  exact PySem.W.kia_one Z I.kIn J e (fun z => by cases z) fun tk => ⟨.bl b, H, I.kept (t' := tk) fun _ _ z => z, rfl, q⟩

/-! #### values of other kinds are no instances -/
def kdAll : List Kd := [.non, .bl, .int, .str, .lst, .tup, .dct]
def KNot (K : PySem.W.Frag) (C : Addr) : Prop := ∀ k : Kd, PySem.W.kitOne K (.type k.nm) (.ref C) = some false
def knB (K : PySem.W.Frag) (C : Addr) : Bool := kdAll.all fun k => decide (PySem.W.kitOne K (.type k.nm) (.ref C) = some false)
theorem knB_ok {K : PySem.W.Frag} {C : Addr} (h : knB K C = true) : KNot K C := fun k => of_decide_eq_true (List.all_eq_true.mp h k (by cases k <;> simp [kdAll]))
theorem g_isiKd {K : PySem.W.Frag} {H : Hp} {Q : VK} {x : V} {k : Kd} {C : Addr} (h : KdV K H x k) (n : KNot K C) (q : Q (.bl false) H) : rIsi K [x, .ref C] H Q := ⟨x, .ref C, _, _, false, rfl, .own C, h.ty, n k, q⟩
/-! #### calls in a try's body -/
def tMethS (C : Addr) (m : Str) (sp : Sp) (E : L2.St → XK) (ta : TE) (t : TA) : TE := fun σ H Q => ta σ H fun x H1 => insR C m x H1 (t σ H1 fun vs H2 => sp (x :: vs) H2 Q (E σ))
section
variable {X : Cx} {x m : Str} {k : Nat} {ps : List Str} {sp : Sp} {C : Addr} {W : WX} {p pos apos : Pos} {e o : Expr} {es : List Expr} {ta : TE} {t : TA}
theorem pe_dfS (D : DefOk X.prog X.w X.K X.mg X.base x k ps sp) (hr : Room k X.A) (tk : L2N.Takes X W) (ha : PA X (e :: es) t) (hg : Gl X x := by rfl) (hdb : (x == ("__debug__" : Str)) = false := by decide)
    (hs : starEach (e :: es) X.env = (false, eval e X.env) :: starEach es X.env := by rfl) (hp : (backTo pos (starEach es X.env)).any (·.1) = false := by rfl) : PE X (.Call (.Name x p) (e :: es) [] pos) (tCallS sp (WE W) t) :=
  D.elim fun _ D => D.elim fun _ D => pe_callS D.1 hr hg D.2.1 D.2.2.1 D.2.2.2 (fun σ => L2N.passAt tk σ) ha hdb hs hp
theorem pe_mthS {pl : Sem Bool} (D : MthOk X.prog X.w X.K X.mg X.base C m k ps sp) (hr : Room k X.A) (tk : L2N.Takes X W) (ho : PE X o ta) (ha : PA X (e :: es) t)
    (hst : starEach (e :: es) X.env = (false, eval e X.env) :: starEach es X.env := by rfl) (hpl : (backTo pos (starEach es X.env)).any (·.1) = false := by rfl)
    (ht : eval (.Call (.Attribute o m apos) (e :: es) [] pos) X.env = (do
      let ov ← eval o X.env
      standAt apos.atName
      let (f, first) ← holding [ov] (getMethod ov m pl)
      callWith pos f first (backTo pos (starEach (e :: es) X.env)) (backToKw pos (keywordEach [] X.env))) := by rfl) :
    PE X (.Call (.Attribute o m apos) (e :: es) [] pos) (tMethS C m sp (WE W) ta t) := by
  obtain ⟨f, fd, F, hm, hb, hc⟩ := D
  constructor
  intro pins s σ H Q I h
  have run := ho.run pins s σ H _ I h
  refine PySem.W.methodCall_KW (pl := pl) (thn run ?_) ht
  rintro u s1 ⟨y, H1, I1, ry, a, dx, fs, rfl, ea, l, q⟩
  cases (show u = Value.ref a from ry)
  apply getmeth_ok I1 ea hc hm l
  have go := ha.run pos pins s1 σ H1 _ I1 q
  refine PySem.W.callWith_K (h₀ := X.base) (first := [.ref a]) I.ok.mod.kin hm.kp (thn go ?_) hst hpl
  rintro us s2 ⟨vs, H2, I2, r, q2⟩
  exact ⟨I2.kIn, run_fnS (vs := .ref a :: vs) (us := .ref a :: us) F hr hb (L2N.passAt tk σ) I2 (.cons rfl r) q2⟩
end
/-! #### try .. except .. as -/
def tTryAs (K : PySem.W.Frag) (c : Value) (i : Nat) (tb : WX → TS) (ts : Addr → Value → Option Addr → TS) (Wout : WX) : TS := fun D σ H => tb (wAs K c i ts Wout D) D σ H
def tTryOnly (K : PySem.W.Frag) (c : Value) (tb : WX → TS) (ts : Addr → Value → Option Addr → TS) (Wout : WX) : TS := fun D σ H => tb (wMany K Wout D [(c, ts)]) D σ H
section
variable {X : Cx} {K : PySem.W.Frag} {x n : Str} {c : Value} {i : Nat} {body suite : List Stmt} {b₀ : Stmt} {np pos pos' : Pos} {tb : WX → TS} {ts : Addr → Value → Option Addr → TS} {Wout : WX}
theorem ps_tryAs (hK : X.K = K) (hs : X.stack = X.env :: X.outer) (hf : X.env.frame = some X.env.locals) (hN : X.N.Nodup) (hi : X.N[i]? = some n) (hln : X.env.kindOf n = some .local) (hc : Names X x c) (tk : L2N.Takes X Wout)
    (hb : ∀ (W : WX) (pn : List (Addr × Obj)) (xe : Value → Shared → Prop), L2N.Takes (X.tr pn xe) W → PassesOwn (model X.prog X.w) X.A X.env xe → PSs (X.tr pn xe) body (tb W))
    (hsu : ∀ (a : Addr) (oe : Obj) (cls : Value) (d : Option Addr) (pn : List (Addr × Obj)), L2N.Zn cls d oe → (∃ vs, oe.data = .fields vs) → PSs (X.suite a ((a, oe) :: pn)) (b₀ :: suite) (ts a cls d)) :
    PS X (.Try body [.ExceptHandler (some (.Name x np)) (some n) (b₀ :: suite) pos'] [] [] pos) (tTryAs K c i tb ts Wout) := by
  subst hK
  exact L2N.ps_try_as hs hf hN hi hln hc tk hb hsu
theorem ps_tryOnly (hK : X.K = K) (hs : X.stack = X.env :: X.outer) (hf : X.env.frame = some X.env.locals) (hc : Names X x c) (tk : L2N.Takes X Wout)
    (hb : ∀ (W : WX) (pn : List (Addr × Obj)) (xe : Value → Shared → Prop), L2N.Takes (X.tr pn xe) W → PassesOwn (model X.prog X.w) X.A X.env xe → PSs (X.tr pn xe) body (tb W))
    (hsu : ∀ (a : Addr) (oe : Obj) (cls : Value) (d : Option Addr) (pn : List (Addr × Obj)), L2N.Zn cls d oe → (∃ vs, oe.data = .fields vs) → PSs (X.suite a ((a, oe) :: pn)) (b₀ :: suite) (ts a cls d)) :
    PS X (.Try body [.ExceptHandler (some (.Name x np)) none (b₀ :: suite) pos'] [] [] pos) (tTryOnly K c tb ts Wout) := by
  subst hK
  exact L2N.ps_try_many hs hf tk hb (.cons hc hsu .nil)
end
section
variable {K : PySem.W.Frag} {σ : L2.St} {H : Hp} {Q : VK} {C D a dd : Addr} {f : Str} {W Wout : WX} {ta te : TE} {t tA : TA} {v : V} {N : L2.St → Hp → Prop} {R : VK} {Bk Ct : L2.St → Hp → Prop} {c : Value} {i : Nat} {tb : WX → TS} {ts : Addr → Value → Option Addr → TS} {m : Str} {sp : Sp} {E : L2.St → XK} {cls : Value} {d : Option Addr} {b : Bool} {fs : List (Str × V)}
theorem g_try (q : tb (wAs K c i ts Wout ⟨N, R, Bk, Ct⟩) ⟨N, R, Bk, Ct⟩ σ H) : tTryAs K c i tb ts Wout ⟨N, R, Bk, Ct⟩ σ H := q
theorem g_tryO (q : tb (wMany K Wout ⟨N, R, Bk, Ct⟩ [(c, ts)]) ⟨N, R, Bk, Ct⟩ σ H) : tTryOnly K c tb ts Wout ⟨N, R, Bk, Ct⟩ σ H := q
theorem g_methS (q : ta σ H fun x H1 => insR C m x H1 (t σ H1 fun vs H2 => sp (x :: vs) H2 Q (E σ))) : tMethS C m sp E ta t σ H Q := q
theorem g_callS (q : tA σ H fun vs H1 => sp vs H1 Q (E σ)) : tCallS sp E tA σ H Q := q
theorem g_caught (e : PySem.W.exmOne K (.ref C) c = some true) (q : ∀ a, H a = none → ts a (.ref C) d ⟨fun σ' H' => N (σ'.set i none) H', R, fun σ' H' => Bk (σ'.set i none) H', fun σ' H' => Ct (σ'.set i none) H'⟩ (σ.set i (some (.ref a))) H) :
    WE (wAs K c i ts Wout ⟨N, R, Bk, Ct⟩) σ (.ref C) d H := ⟨true, e, fun _ => q, fun z => Bool.noConfusion z⟩
theorem g_missed (e : PySem.W.exmOne K (.ref C) c = some false) (q : Wout (.ref C) d σ H) : WE (wAs K c i ts Wout ⟨N, R, Bk, Ct⟩) σ (.ref C) d H := ⟨false, e, fun z => Bool.noConfusion z, fun _ => q⟩
def xfR (a : Addr) (cls : Value) (d : Option Addr) (C : Addr) (f : Str) (Q : VK) (x : V) (H1 : Hp) : Prop := x = .ref a ∧ cls = .ref C ∧ ∃ (dd : Addr) (fs : List (Str × V)) (v : V), d = some dd ∧ H1 dd = some (.xd fs) ∧ fs.lookup f = some v ∧ Q v H1
theorem g_xf (q : te σ H (xfR a cls d C f Q)) : tXf a cls d C f te σ H Q := q
theorem g_xfR (h : H dd = some (.xd fs)) (l : fs.lookup f = some v) (q : Q v H) : xfR a (.ref C) (some dd) C f Q (.ref a) H := ⟨rfl, rfl, dd, fs, v, rfl, h, l, q⟩
theorem g_isX (h : H dd = some (.xd fs)) (e : PySem.W.kitOne K (.ref D) (.ref C) = some b) (q : Q (.bl b) H) : rIsX K D a (.ref D) (some dd) [.ref a, .ref C] H Q := ⟨C, dd, fs, b, rfl, rfl, rfl, h, e, q⟩
end
end SH
end

section
namespace SH
open PySem PySem.Spec PyProof.Rows L2
/-! ### defs that show lists as texts: called where no such showing is under way -/
structure FnG (P : Program) (w : World) (K : PySem.W.Frag) (mg : Str → Option Value) (base : Heap) (CX : CXT) (k : Nat) (f : Addr) (fd : FuncData) (ps : List Str) (sp : Sp) : Prop where
  len : ∀ vs H Q E, sp vs H Q E → vs.length = ps.length
  run : ∀ (A : Around) (outer : List Env) (s : Shared) (H : Hp) (args : Args) (us : List Value) (vs : List V) (Q : VK) (E : XK), A.guards = some [] → Room k A → Env0 P w K mg base A outer s H →
    BindsTo s fd args (ps.zip us) → Vals vs us → sp vs H Q E → codeAny (model P w) A (.call (.ref f) args) (CR CX outer P w H s Q E) s
def DefG (P : Program) (w : World) (K : PySem.W.Frag) (mg : Str → Option Value) (base : Heap) (x : Str) (k : Nat) (ps : List Str) (sp : Sp) : Prop :=
  ∃ f fd, FnG P w K mg base (L2N.CX P w) k f fd ps sp ∧ mg x = some (.ref f) ∧ PySem.W.keepIn K (.ref f) = true ∧ Binds K fd ps [] ∧ ∃ oc od osl, K.lookup f = some ⟨oc, od, .func fd, osl⟩
section
variable {P : Program} {w : World} {K : PySem.W.Frag} {mg : Str → Option Value} {base : Heap} {x : Str} {st : Stmt} {N ps : List Str} {k : Nat} {sp : Sp}
theorem TopD.okG (T : TopD K mg x st) (S : FnScope N ps (defScope st))
    (hb : ∀ (kV doc pm : Value) (an : Option Addr) (cdv ct : Value) (us : List Value), us.length = ps.length → bindArgs (PySem.W.fnOf x x (defArgs st) (defBody st) (defScope st) .none kV doc pm an cdv ct) ⟨us, []⟩ = pure (ps.zip us))
    (len : ∀ vs H Q E, sp vs H Q E → vs.length = ps.length)
    (hbody : ∀ (f : Addr) (cdv : Value) (A : Around) (outer : List Env) (s : Shared) (H : Hp) (vs : List V) (Q : VK) (E : XK), (A.deeper (envOfC x (defScope st) s.heap.objs.size f cdv)).guards = some [] → Room k (A.deeper (envOfC x (defScope st) s.heap.objs.size f cdv)) → sp vs H Q E →
      ∃ t, PSs (cxOf (L2N.CX P w) P w K mg base N x (defScope st) f cdv A outer s H E) (defBody st) t ∧ t { nx := fun _ H' => Q .non H', rt := Q } (start N vs) H) : DefG P w K mg base x (k + 1) ps sp := by
  obtain ⟨f, fd, F, hm⟩ := T
  have hkp := F.kp
  have hbn := F.bindsN hb
  obtain ⟨oc, od, dV, kV, doc, pm, an, cdv, ct, osl, rfl, lk, hcd, _, _⟩ := F.ex
  refine ⟨f, _, ⟨len, ?_⟩, hm, hkp, hbn, _, _, _, lk⟩
  intro A outer s H args us vs Q E hg hr e0 hbd rv hsp
  obtain ⟨t, ht, hq⟩ := hbody f cdv A outer s H vs Q E hg (hr.deeper _) hsp
  have old : ∀ b o, base.get? b = some o → s.heap.get? b = some o := fun b o e => (e0.bs b o e).1
  have kin : K.In s.heap := e0.mod.kin.keeps old
  have kinds : ∀ y ∈ ps.zip us, (defScope st).names.lookup y.1 = some .local ∨ ((defScope st).names.lookup y.1 = some .cell ∧ ((cellsFrom (s.heap.objs.size + 1) (defScope st).names []).lookup y.1).isSome = true) := by
    intro y hy
    have hz := S.par y.1 (List.of_mem_zip (show (y.1, y.2) ∈ ps.zip us from hy)).1
    exact hz.elim Or.inl fun z => Or.inr ⟨z, PySem.W.cellsFrom_some _ _ _ (Or.inl z)⟩
  apply codeAny_call_function hr.depth (kin _ _ lk) rfl S.co S.gen rfl (PySem.W.codeRec_of kin hcd)
  apply hbd
  apply wpAny_newFunctionEnv_cells S.kind kinds
  intro env he s1 x1
  subst he
  have I : Inv (cxOf (L2N.CX P w) P w K mg base N x (defScope st) f cdv A outer s H E) [] (start N vs) H s1 := inv_start S hr.hd e0 (len _ _ _ _ hsp) rv x1
  constructor
  · exact (e0.mod.nolimit.keeps old).keeps x1.toInCall.keep
  · apply codeAny_func
    apply wpAny_mono (ht.run [] s1 (start N vs) H _ I hq) ?_ (fun _ _ z => z)
    intro fl s' z
    cases fl with
    | brk => exact z.elim fun _ z => z.elim fun _ z => z.2.elim
    | cont => exact z.elim fun _ z => z.elim fun _ z => z.2.elim
    | next =>
      obtain ⟨σ', H', J, q⟩ := z
      exact ⟨V.non, H', J.os, J.bare, J.base, J.hok, rfl, q⟩
    | ret u =>
      obtain ⟨v, σ', H', J, r, q⟩ := z
      exact ⟨v, H', J.os, J.bare, J.base, J.hok, r, q⟩
end
section
variable {X : Cx} {x : Str} {k : Nat} {ps : List Str} {sp : Sp} {E : XK} {p pos : Pos} {e : Expr} {es : List Expr} {t : TA}
theorem pe_dfG (D : DefG X.prog X.w X.K X.mg X.base x k ps sp) (gd : X.A.guards = some []) (hr : Room k X.A) (hx : Passes (L2N.CX X.prog X.w) X E) (ha : PA X (e :: es) t) (hg : Gl X x := by rfl) (hdb : (x == ("__debug__" : Str)) = false := by decide)
    (hs : starEach (e :: es) X.env = (false, eval e X.env) :: starEach es X.env := by rfl) (hp : (backTo pos (starEach es X.env)).any (·.1) = false := by rfl) : PE X (.Call (.Name x p) (e :: es) [] pos) (tCall sp [] E t) := by
  obtain ⟨f, fd, F, hm, hk, hb, _⟩ := D
  constructor
  intro pins s σ H Q I h
  apply wpAny_Call_Name_kw (ld_glob I hg hm ?_ hdb)
  refine PySem.W.callWith_K (h₀ := X.base) I.ok.mod.kin hk (thn (ha.run pos pins s σ H _ I h) ?_) hs hp
  rintro us s1 ⟨vs, H1, I1, r, q⟩
  refine ⟨I1.kIn, ?_⟩
  rw [List.append_nil] at q
  have hl : us.length = ps.length := by
    rw [← r.length]
    exact F.len _ _ _ _ q
  have bd := hb s1 us I1.kIn (by rw [List.append_nil]; exact hl)
  rw [List.append_nil] at bd
  have run := F.run X.A X.stack s1 H1 ⟨us, []⟩ us vs Q E gd hr I1.env0 bd r q
  refine wpAny_call (codeAny_mono run ?_)
  intro res s2 z
  match res, z with
  | .error er, z => exact hx pins σ H1 s1 er s2 I1 z
  | .ok (.ret u), z => exact I1.after z
  | .ok .next, z => exact z.elim
  | .ok .brk, z => exact z.elim
  | .ok .cont, z => exact z.elim
/-! #### repr of lists and tuples -/
/-- data small enough to be shown -/
structure Shw (d : PyData) (n k : Nat) : Prop where
  lay : PyData.canLay0 d = true
  sht : PyData.intsShort 13 d = true
  shw : PyData.showable d = true
  nod : PyData.hasDict d = false
  wgt : PyData.weight d ≤ n
  dep : PyData.depth d ≤ k
structure ShwL (ds : List PyData) (n k : Nat) : Prop where
  lay : PyData.canLayAll0 ds = true
  sht : PyData.intsShortAll 13 ds = true
  shw : PyData.showableAll ds = true
  nod : PyData.hasDictAll ds = false
  wgt : PyData.weightAll ds ≤ n
  dep : PyData.depthAll ds ≤ k
theorem Shw.mono {d : PyData} {n m k j : Nat} (h : Shw d n k) (a : n ≤ m) (b : k ≤ j) : Shw d m j := ⟨h.lay, h.sht, h.shw, h.nod, Nat.le_trans h.wgt a, Nat.le_trans h.dep b⟩
theorem ShwL.mono {d : List PyData} {n m k j : Nat} (h : ShwL d n k) (a : n ≤ m) (b : k ≤ j) : ShwL d m j := ⟨h.lay, h.sht, h.shw, h.nod, Nat.le_trans h.wgt a, Nat.le_trans h.dep b⟩
theorem ShwL.nil : ShwL [] 0 0 := ⟨rfl, rfl, rfl, rfl, Nat.le_refl _, Nat.le_refl _⟩
theorem ShwL.cons {d : PyData} {ds : List PyData} {n m k : Nat} (h : Shw d n k) (t : ShwL ds m k) : ShwL (d :: ds) (n + 1 + m) k where
  lay := by
    show (PyData.canLay0 d && PyData.canLayAll0 ds) = true
    rw [h.lay, t.lay]; rfl
  sht := by
    show (PyData.intsShort 13 d && PyData.intsShortAll 13 ds) = true
    rw [h.sht, t.sht]; rfl
  shw := by
    show (PyData.showable d && PyData.showableAll ds) = true
    rw [h.shw, t.shw]; rfl
  nod := by
    show (PyData.hasDict d || PyData.hasDictAll ds) = false
    rw [h.nod, t.nod]; rfl
  wgt := by
    show PyData.weight d + 1 + PyData.weightAll ds ≤ _
    have := h.wgt; have := t.wgt; omega
  dep := by
    show max (PyData.depth d) (PyData.depthAll ds) ≤ k
    have := h.dep; have := t.dep; omega
theorem ShwL.lst {ds : List PyData} {n k : Nat} (h : ShwL ds n k) : Shw (.list ds) n (k + 1) := ⟨h.lay, h.sht, h.shw, h.nod, h.wgt, by show PyData.depthAll ds + 1 ≤ _; have := h.dep; omega⟩
theorem ShwL.tup {ds : List PyData} {n k : Nat} (h : ShwL ds n k) : Shw (.tuple ds) n (k + 1) := ⟨h.lay, h.sht, h.shw, h.nod, h.wgt, by show PyData.depthAll ds + 1 ≤ _; have := h.dep; omega⟩
theorem Shw.bool (b : Bool) : Shw (.bool b) 0 0 := ⟨rfl, rfl, rfl, rfl, Nat.le_refl _, Nat.le_refl _⟩
theorem str_short {s : String} {k : Nat} (h : s.length ≤ k) : (Str.ofString s).length ≤ k := by rw [PySem.ofString_length]; exact h
theorem Shw.int {i : Int} (h : i.natAbs < 1000000000000) : Shw (.int i) 40 0 where
  lay := rfl
  sht := by
    show decide (_ ≤ 13) = true
    refine decide_eq_true ?_
    exact str_short (int_text_length_le10 (k := 12) (by decide) h)
  shw := by
    show decide (i.natAbs.log2 < 1920) = true
    refine decide_eq_true ?_
    by_cases h0 : i.natAbs = 0
    · rw [h0]; decide
    · have : i.natAbs.log2 < 40 := (Nat.log2_lt h0).mpr (by omega)
      omega
  nod := rfl
  wgt := by
    show (if i == 0 then 0 else i.natAbs.log2 + 1) ≤ 40
    split
    · omega
    · rename_i h0
      have h1 : i ≠ 0 := by simpa using h0
      have : i.natAbs.log2 < 40 := (Nat.log2_lt (by omega)).mpr (by omega)
      omega
  dep := Nat.le_refl _
/-- repr(x), x a list or a tuple of data -/
def rRepr (K : PySem.W.Frag) : List V → Hp → VK → Prop := fun xs H Q => ∃ (a : Addr) (d : PyData), xs = [.ref a] ∧ Dp K H (.ref a) d ∧ Shw d 1000000 60 ∧ Q (.str d.shown) H
theorem call_reprG {K : PySem.W.Frag} (hK : X.K = K) (gd : X.A.guards = some []) (hu : X.A.units + 64 < cLine) : CallR X (.builtin "repr") (rRepr K) := by
  subst hK
  intro pins s σ H xs us Q I r h
  obtain ⟨a, d, rfl, hd, sh, q⟩ := h
  cases r with
  | cons r1 r2 =>
    cases r2
    cases (show _ = Value.ref a from r1)
    obtain ⟨as, rd⟩ := Dp.reads I d _ _ hd rfl
    have fits : d.shown.length ≤ sizeLine := by
      have e : PyData.layable0 d = true := by
        show (PyData.canLay0 d && decide (PyData.depth d ≤ 64) && decide (PyData.weight d ≤ 2 ^ 20)) = true
        have h1 := sh.dep
        have h2 := sh.wgt
        rw [sh.lay, decide_eq_true (show PyData.depth d ≤ 64 by omega), decide_eq_true (show PyData.weight d ≤ 2 ^ 20 by omega)]
        rfl
      have z := shown_le13 e sh.sht
      rw [PySem.sizeLine_eq]
      omega
    have dp := sh.dep
    exact PySem.repr_of_reads' rd sh.shw (fun z => by rw [sh.nod] at z; cases z) gd (by omega) (fun _ _ e => e) (fun h' u tk hk => ⟨.str d.shown, H, I.kept (t' := tk) hk, ⟨u, rfl⟩, q⟩) fits
theorem g_repr {K : PySem.W.Frag} {H : Hp} {Q : VK} {a : Addr} {d : PyData} (h : Dp K H (.ref a) d) (sh : Shw d 1000000 60) (q : Q (.str d.shown) H) : rRepr K [.ref a] H Q := ⟨a, d, rfl, h, sh, q⟩
end
/-! #### the end: a law whose def shows lists -/
section
theorem law_callG {P : Program} {w : World} {K : PySem.W.Frag} {mg mb : Str → Option Value} {CX : CXT} {k : Nat} {fa a : Addr} {fd : FuncData} {x : Str} {sp : Sp} {s₁ : Shared} {vs : List Value} {ns : List Int}
    (KX : K.In s₁.heap) (hns : s₁.heap.Ns mainGlobals mg) (hb : s₁.heap.Ns builtinsNs mb) (hbb : ∀ x : Str, x ≠ "__name__" → mb x = bootBuiltins x) (hlim : s₁.heap.NoLimit) (hg : s₁.gens = #[])
    (ha : s₁.heap.get? a = some { cls := .type "list", data := .seq vs.toArray }) (hi : IntsAre vs ns) (hl : ns.length ≤ sizeLine) (hr : Room k callerA)
    (F : ∀ base : Heap, K.In base → base.Ns mainGlobals mg → FnG P w K mg base CX k fa fd [x] sp) (hbind : ∀ (s : Shared) (u : Value), BindsTo s fd ⟨[u], []⟩ [(x, u)])
    (hsp : ∀ H : Hp, Only H → SqL K H a (ns.map V.int) → sp [.ref a] H (fun v _ => v = .bl true) fun _ _ _ => False)
    (hCX : ∀ H e s', CX [] H s₁ (fun _ _ _ => False) e s' → False) :
    codeAny (model P w) callerA (.call (.ref fa) ⟨[.ref a], []⟩) (fun r s' => r = .ok (.ret (.bool true)) ∧ OldK s₁.heap s'.heap ∧ s'.os = s₁.os ∧ AllBare s'.gens) s₁ := by
  classical
  -- what is tracked at the start: the script, where it is not the module's own
  obtain ⟨H, hH⟩ : ∃ H : Hp, H = fun b => if b = a ∧ K.lookup a = none then some (.frz { cls := .type "list", data := .seq vs.toArray } (.lst (ns.map V.int))) else none := ⟨_, rfl⟩
  have at_ : ∀ b u, H b = some u → b = a ∧ K.lookup a = none ∧ u = .frz { cls := .type "list", data := .seq vs.toArray } (.lst (ns.map V.int)) := by
    intro b u e
    rw [hH] at e
    by_cases c : b = a ∧ K.lookup a = none
    · have e' := (if_pos c).symm.trans e
      cases e'
      exact ⟨c.1, c.2, rfl⟩
    · have e' := (if_neg c).symm.trans e
      cases e'
  have only : Only H := by
    intro b
    rcases h : H b with _ | u
    · exact Or.inl rfl
    · obtain ⟨_, _, rfl⟩ := at_ b u h
      exact Or.inr ⟨_, _, rfl⟩
  have nums := vals_ints hi
  have many := hi.length
  have seq : SqL K H a (ns.map V.int) := by
    rcases h : K.lookup a with _ | o
    · refine .inl (.inr ⟨{ cls := .type "list", data := .seq vs.toArray }, ?_⟩)
      rw [hH]
      exact if_pos ⟨rfl, h⟩
    · have e := (KX a o h).symm.trans ha
      cases e
      exact .inr ⟨_, vs.toArray, _, h, rfl, rfl, rfl, by rw [List.size_toArray, many]; exact hl, by simpa using nums⟩
  have hok : HOk P w H s₁.heap := by
    intro b u e
    obtain ⟨rfl, _, rfl⟩ := at_ b u e
    exact ⟨ha, by rw [List.length_map]; exact hl, vs, _, nums, ha⟩
  have keep : ∀ {b o}, s₁.heap.get? b = some o → H b = none → (hidT s₁.heap H).get? b = some o := fun e n => hidT_get e n
  have noDict : ∀ {b : Addr} {o : Obj} {es : Array DictEntry} {ep : Nat}, s₁.heap.get? b = some o → o.data = .dict es ep → H b = none := by
    intro b o es ep e d
    rcases h : H b with _ | u
    · rfl
    · obtain ⟨rfl, _, _⟩ := at_ b u h
      cases ha.symm.trans e
      cases (show Data.seq vs.toArray _ = Data.dict es ep from d)
  have nsB : ∀ {b m}, s₁.heap.Ns b m → (hidT s₁.heap H).Ns b m := by
    rintro b m ⟨o, es, ep, e, d, r⟩
    exact ⟨o, es, ep, keep e (noDict e d), d, r⟩
  have kinB : K.In (hidT s₁.heap H) := by
    intro b o e
    apply keep (KX b o e)
    rcases h : H b with _ | u
    · rfl
    · obtain ⟨rfl, n, _⟩ := at_ b u h
      cases n.symm.trans e
  obtain ⟨mc, lim1, lim2⟩ := hlim
  have md : Mod K mg (hidT s₁.heap H) := ⟨kinB, nsB hns, ⟨mb, nsB hb, hbb⟩, ⟨mc, nsB lim1, lim2⟩⟩
  have e0 : Env0 P w K mg (hidT s₁.heap H) callerA [] s₁ H := ⟨rfl, md, fun b o e => of_hidT e, Nat.le_of_eq (hidT_size _ _), trivial, fun b z => (by cases z), hok, .of_eq hg⟩
  have run := (F _ kinB (nsB hns)).run callerA [] s₁ H ⟨[.ref a], []⟩ [.ref a] [.ref a] _ _ rfl hr e0 (hbind s₁ (.ref a)) (.cons rfl .nil) (hsp H only seq)
  refine codeAny_mono run ?_
  intro r s' z
  match r, z with
  | .error e, z => exact (hCX H e s' z).elim
  | .ok .next, z => exact z.elim
  | .ok .brk, z => exact z.elim
  | .ok .cont, z => exact z.elim
  | .ok (.ret u), z =>
    obtain ⟨v, H', os, bare, un, hok', rv, q⟩ := z
    cases (show v = .bl true from q)
    cases (show u = Value.bool true from rv)
    refine ⟨rfl, OldK.of_keep ?_, os, bare⟩
    intro b o e
    rcases h : H b with _ | u
    · exact un.keep b o e h (fun z => by cases z) (fun z => by cases z)
    · obtain ⟨rfl, _, rfl⟩ := at_ b u h
      have z1 := (hok b _ h).1
      have z2 := (hok' b _ (un.frzs b _ _ h)).1
      cases z1.symm.trans e
      exact z2
theorem walk_ofG {l : PySem.W.OpenLaw} {n k : Nat} {q : Program} {loose : List Str} {XP : (Str → Option Value) → Heap → Prop} {YP : World → Heap → Prop} {d : DefRec} {CX : World → CXT} {x : Str}
    (hn : l.most = some n) (hn2 : n ≤ sizeLine) (hdf : d.params.defaults = []) (hr : Room k callerA)
    (F : ∀ (w : World) (mg : Str → Option Value) (fa : Addr) (h : Heap), YP w h → h.Ns mainGlobals mg → mg d.name = some (.ref fa) → ∃ (K : PySem.W.Frag) (fd : FuncData) (sp : Sp), K.In h ∧ (∀ (s : Shared) (u : Value), BindsTo s fd ⟨[u], []⟩ [(x, u)]) ∧
      (∀ (H : Hp) (a : Addr) (ns : List Int), ns.length ≤ n → Only H → SqL K H a (ns.map V.int) → sp [.ref a] H (fun v _ => v = .bl true) fun _ _ _ => False) ∧ ∀ base : Heap, K.In base → base.Ns mainGlobals mg → FnG l.prog w K mg base (CX w) k fa fd [x] sp)
    (hCX : ∀ (w : World) (H : Hp) (s : Shared) (e : Value) (s' : Shared), CX w [] H s (fun _ _ _ => False) e s' → False) : PySem.W.WalkO q loose XP YP l.row.toRowW d [] (fun f vs => PySem.call f vs) := by
  apply Att.attach_call hn hdf
  intro w s₀ s₁ mg mb fa o pm cd doc a vs ns G Y ho hd hcd hmg hobj hints hlen hg
  obtain ⟨K, fd, sp, kin, hb, hsp, hF⟩ := F w mg fa _ Y G.T.g hmg
  apply law_callG kin G.T.g G.T.b G.T.builtins G.T.nolimit hg hobj hints (Nat.le_trans hlen hn2) hr hF hb
  · exact fun H only seq => hsp H a ns hlen only seq
  · exact fun H e s' z => hCX w H s₁ e s' z
end
end SH
end

section
namespace SH
open PySem PySem.Spec PyProof.Rows L2
/-! ### tuples that bear no dict, told as frozen: their methods can be called -/
def TupN (H : Hp) (p : Addr) (xs : List V) : Prop := ∃ o, H p = some (.frz o (.tup xs)) ∧ o.dict = none
section
variable {K : PySem.W.Frag} {S : List Addr} {H H' : Hp} {p : Addr} {xs : List V}
theorem TupN.sq (h : TupN H p xs) : SqT K H p xs := h.elim fun o h => .inl (.inr ⟨o, h.1⟩)
theorem TupN.off (h : TupN H p xs) (o : Off S H H') : TupN H' p xs := h.elim fun u h => ⟨u, o.frzs _ _ _ h.1, h.2⟩
theorem TupN.live (h : TupN H p xs) : ∃ o, H p = some o := h.elim fun u h => ⟨_, h.1⟩
end
/-- tuple(xs), xs a list: the new tuple's object is told -/
def rTupF (K : PySem.W.Frag) : List V → Hp → VK → Prop := fun xs H Q => ∃ (p : Addr) (ys : List V), xs = [.ref p] ∧ SqL K H p ys ∧ ∀ (l : Addr) (o : Obj), H l = none → o.dict = none → Q (.ref l) (upd H l (.frz o (.tup ys)))
theorem c_tupF {X : Cx} {K : PySem.W.Frag} (hK : X.K = K) : CallR X (.type "tuple") (rTupF K) := by
  subst hK
  intro pins s σ H xs us Q I r h
  obtain ⟨p, ys, rfl, hq, q⟩ := h
  obtain ⟨u, rfl, rx⟩ := vals1 r
  cases rx
  obtain ⟨its, rv, pl, hz⟩ := I.list hq
  have many := rv.length
  apply call_tuple_list pl.isList (hsz := by simp only [List.size_toArray]; omega)
  intro h' keep
  have I1 : Inv X pins σ H { s with heap := h' } := I.kept (t' := s.toks) keep
  have new : (h'.push { cls := .type "tuple", data := .seq its.toArray }).get? h'.objs.size = some { cls := .type "tuple", data := .seq its.toArray } := Heap.get?_push_size _ rfl
  have I2 : Inv X pins σ (upd H h'.objs.size (.frz { cls := .type "tuple", data := .seq its.toArray } (.tup ys))) { s with heap := h'.push { cls := .type "tuple", data := .seq its.toArray } } :=
    I1.laid (t' := s.toks) (fun b o e => Heap.get?_push_of_some _ e) (Nat.le_refl _) (show ObjOk X.prog X.w _ _ _ (.frz _ (.tup ys)) from ⟨new, hz, its, rv, IsTup.new _ _⟩)
  exact ⟨.ref h'.objs.size, _, I2, rfl, q _ _ (I1.hok.fresh (Nat.le_refl _)) rfl⟩
/-- t.index(x), t a tuple of ints -/
def tTupIx (to te : TE) : TE := fun σ H Q => to σ H fun x H1 => (∃ p xs, x = .ref p ∧ TupN H1 p xs) ∧ te σ H1 fun y H2 => ∃ (p : Addr) (ns : List Int) (k : Int), x = .ref p ∧ y = .int k ∧ TupN H2 p (ns.map V.int) ∧ k ∈ ns ∧ Q (.int ((ns.idxOf k : Nat) : Int)) H2
theorem items_ints {A : Around} {s : Shared} {k : Int} {t : Tok} : ∀ {vs : List Value} {ns : List Int}, IntsAre vs ns → SeqAt.ItemsEq A s vs ns (.int k t) k
  | _, _, .nil => ⟨rfl, fun j h => by simp at h⟩
  | _, _, .cons n u r => by
    obtain ⟨l, at_⟩ := items_ints (A := A) (s := s) (k := k) (t := t) r
    refine ⟨by simp [l], fun j h1 h2 => ?_⟩
    cases j with
    | zero => exact SeqAt.EqAt.int_int n u k t
    | succ j => exact at_ j (Nat.lt_of_succ_lt_succ h1) (Nat.lt_of_succ_lt_succ h2)
section
variable {X : Cx} {o e : Expr} {to te : TE} {apos cpos : Pos}
theorem pe_tupIx (ho : PE X o to) (he : PE X e te) (hbase : attributeBase o "index" X.env (eval o X.env) = eval o X.env := by rfl)
    (hfew : ((backTo cpos (starEach [e] X.env)).all (fun x => !x.1) && (backToKw cpos (keywordEach [] X.env)).all (fun x => x.1.isSome)
      && decide ([e].length + ([] : List Keyword).length + (if ([] : List Keyword).isEmpty then 0 else 1) < 30)) = true := by rfl)
    (hline : (apos.endLine == cpos.line) = true := by rfl) (hs : starEach [e] X.env = [(false, eval e X.env)] := by rfl) :
    PE X (.Call (.Attribute o "index" apos) [e] [] cpos) (tTupIx to te) := by
  constructor
  intro pins s σ H Q I h
  apply wpAny_Call_method_late hbase hfew hline rfl
  refine thn (ho.run pins s σ H _ I h) ?_
  rintro v s1 ⟨x, H1, I1, r1, ⟨p, xs, rfl, ob, hp, hd⟩, q1⟩
  cases (show v = Value.ref p from r1)
  obtain ⟨hget, _, its, _, tp⟩ := (I1.hok p _ hp : ObjOk X.prog X.w H1 s1.heap p (.frz ob (.tup xs)))
  have ty : s1.TypeIs (.ref p) "tuple" := by
    obtain ⟨o2, g2, c2, _⟩ := tp
    exact ⟨o2, g2, c2⟩
  refine ⟨"tuple", "tuple.index", PySem.F.plainAttrs_tuple, PySem.F.slot_tuple_index, PySem.F.type_tuple_index, ty, ?_, ?_⟩
  · intro a ea
    cases ea
    exact ⟨ob, hget, hd⟩
  · rw [hs]
    apply Calls.callWith_builtin rfl
    apply Calls.evalArgs_plain
    refine Calls.spliced_cons (thn (he.run pins s1 σ H1 _ I1 q1) ?_)
    rintro w1 s2 ⟨y, H2, I2, r2, p2, ns, k, ep, rfl, ht, hk, q2⟩
    cases ep
    obtain ⟨t, rfl⟩ := r2
    apply Calls.spliced_nil
    obtain ⟨its2, rv, pl, _⟩ := I2.tuple (TupN.sq ht)
    exact SeqAt.call_tuple_index pl (items_ints (Vals.ints rv)) hk ⟨.int _, H2, I2.tok _, ⟨_, rfl⟩, q2⟩
end
section
variable {K : PySem.W.Frag} {σ : L2.St} {H : Hp} {Q : VK} {to te : TE} {p : Addr} {ns : List Int} {k : Int} {xs : List V}
def tupIx2 (x : V) (Q : VK) (y : V) (H2 : Hp) : Prop := ∃ (p : Addr) (ns : List Int) (k : Int), x = .ref p ∧ y = .int k ∧ TupN H2 p (ns.map V.int) ∧ k ∈ ns ∧ Q (.int ((ns.idxOf k : Nat) : Int)) H2
def tupIx1 (te : TE) (σ : L2.St) (Q : VK) (x : V) (H1 : Hp) : Prop := (∃ p xs, x = .ref p ∧ TupN H1 p xs) ∧ te σ H1 (tupIx2 x Q)
theorem g_tupIx (q : to σ H (tupIx1 te σ Q)) : tTupIx to te σ H Q := q
theorem g_tupIx1 (h : TupN H p xs) (q : te σ H (tupIx2 (.ref p) Q)) : tupIx1 te σ Q (.ref p) H := ⟨⟨p, xs, rfl, h⟩, q⟩
theorem g_tupIx2 (h : TupN H p (ns.map V.int)) (hk : k ∈ ns) (q : Q (.int ((ns.idxOf k : Nat) : Int)) H) : tupIx2 (.ref p) Q (.int k) H := ⟨p, ns, k, rfl, rfl, h, hk, q⟩
theorem g_tupF (h : SqL K H p xs) (q : ∀ l H', H l = none → TupN H' l xs → Off [] H H' → Q (.ref l) H') : rTupF K [.ref p] H Q :=
  ⟨p, xs, rfl, h, fun l o hl hd => q l _ hl ⟨o, upd_same, hd⟩ (.new hl)⟩
end
end SH
end

section
namespace SH
open PySem PySem.Spec PyProof.Rows L2
/-! ### enumerate(t), t a tuple -/
def IteT (K : PySem.W.Frag) (a : Addr) : It :=
  ⟨fun i H => ∃ (xs : List V) (x : V), SqT K H a xs ∧ xs[i]? = some x, fun i H v H' => ∃ T x, v = .ref T ∧ H T = none ∧ H' = upd H T (.tup [.int (i : Nat), x]) ∧ ∀ xs, SqT K H a xs → xs[i]? = some x, fun i H => ∃ xs : List V, SqT K H a xs ∧ xs.length ≤ i⟩
set_option maxHeartbeats 1000000 in
theorem meets_enum1 {v : Value} {o : Obj} {H : Heap → Prop} (B : Begins v o H) :
    Meets (Builtin.«enumerate.__new__» ⟨[.type "enumerate", v], []⟩) (fun _ R s => H s.heap ∧ R (.ok (.ret (.ref (s.heap.push o).objs.size))) { s with heap := (s.heap.push o).push { cls := .type "enumerate", data := .fields #[.none, .bool false, .ref s.heap.objs.size, rawInt 0, .none, .none] } }) := by
  apply Meets.of_wp
  intro prog w A R s hh
  obtain ⟨hp, g, d, tk, os⟩ := s
  obtain ⟨hv, hr⟩ := hh
  have hsub := sub_enumerate
  have go : ∀ {A' : Around} {E : Value → Shared → Prop} {Q : Value → Shared → Prop}, Q (.ref hp.objs.size) ⟨hp.push o, g, d, tk, os⟩ → wpAny (model prog w) A' (pyIter v) Q E ⟨hp, g, d, tk, os⟩ := fun q => B.iter _ _ _ _ ⟨hp, g, d, tk, os⟩ _ hv q
  wp_walk using go
  refine wpAny_stack_any fun st => wpAny_pure ?_
  split
  · rename_i c _ _ _ _ _
    cases (c == Value.type "enumerate") <;> (wp_walk using go; exact ⟨_, rfl, hr⟩)
  · wp_walk using go
    exact ⟨_, rfl, hr⟩
theorem turn_enumT {P : Program} {w : World} {K : PySem.W.Frag} {elts : List Expr} {kk : Nat} {tpos : Pos} (a e it : Addr) (ne : e ≠ it) (na : e ≠ a) (ni : a ≠ it) :
    Turn P w K (.Tuple elts kk tpos) (IteT K a) [e, it] e (fun i h => (∃ old, IsEnum h e it ((i : Nat) : Int) old) ∧ h.IsTupleIter it a i) where
  mem := by simp
  obj := by
    rintro i h ⟨⟨old, he⟩, o, ho, hc, hd⟩ b hb
    simp only [List.mem_cons, List.not_mem_nil, or_false] at hb
    rcases hb with rfl | rfl
    · exact ⟨_, he, fun v z => nomatch z⟩
    · exact ⟨o, ho, fun v z => by rw [hd] at z; cases z⟩
  keep := by
    rintro i h h' ⟨⟨old, he⟩, hi⟩ k
    exact ⟨⟨old, k e (by simp) _ he⟩, hi.at fun o z => k it (by simp) o z⟩
  item := by
    intro X hP hw hK hc i pins s σ H E I hf st hg
    subst hP hw hK
    obtain ⟨⟨old, he⟩, hit⟩ := st
    obtain ⟨xs, x, hq, hx⟩ := hg
    obtain ⟨its, rv, p, hz⟩ := I.tuple hq
    obtain ⟨u, hu, ru⟩ := rv.get hx
    have le := Heap.lt_size he
    have li : it < s.heap.objs.size := by
      obtain ⟨_, z, _⟩ := hit
      exact Heap.lt_size z
    have D := Draws.tuple (prog := X.prog) (w := X.w) (A := X.A.in1) (I.ok.hd hc) it a ni its.toArray
    have lt : i < its.toArray.size := by
      have := (List.getElem?_eq_some_iff.mp hu).1
      simpa using this
    apply wpAny_pyNext_enum_itemD D he ⟨hit, p⟩ lt ne (by simp [ne, na])
    intro y h' tk hy ho st' hT hsz hk
    have ey : y = u := by
      have z : its.toArray[i]? = some y := hy
      rw [List.getElem?_toArray, hu] at z
      exact (Option.some.inj z).symm
    subst ey
    refine ⟨_, rfl, wpAny_letOwnedTupleGo_enum (s := { s with heap := h', toks := tk + 1 }) ho ?_⟩
    intro h'' he' sb
    have hT2 := (sb.2 _ (Nat.ne_of_gt le)).trans hT
    have ob : ObjOk X.prog X.w (upd H s.heap.objs.size (.tup [.int (i : Nat), x])) h'' s.heap.objs.size (.tup [.int (i : Nat), x]) := by
      refine ⟨by show 2 ≤ sizeLine; decide, [.int i tk, y], .cons ⟨_, rfl⟩ (.cons ru .nil), ⟨_, hT2, rfl, _, rfl⟩⟩
    have still : ∀ b o, b ∉ [e, it] → s.heap.get? b = some o → h''.get? b = some o := by
      intro b o hb z
      simp only [List.mem_cons, List.not_mem_nil, or_false, not_or] at hb
      exact (sb.2 b hb.1).trans (hk b o hb.1 hb.2 z)
    have I1 : Inv X pins σ (upd H s.heap.objs.size (.tup [.int (i : Nat), x])) { s with heap := h'', toks := tk + 1 } := I.turnedNew (ch := [e, it]) still hf (Nat.le_refl _) ob
    refine ⟨.ref s.heap.objs.size, _, I1, rfl, ⟨_, x, rfl, I.hok.fresh (Nat.le_refl _), rfl, fun ys hy => by rw [I.tuple_inj hy hq]; exact hx⟩, ⟨⟨y, ?_⟩, st'.1.at fun o z => (sb.2 it (Ne.symm ne)).trans z⟩, ?_⟩
    · rw [show ((i + 1 : Nat) : Int) = (i : Int) + 1 by omega]
      exact he'
    · intro b hb
      have lb : b < s.heap.objs.size := by
        simp only [List.mem_cons, List.not_mem_nil, or_false] at hb
        rcases hb with rfl | rfl
        · exact le
        · exact li
      rw [upd_ne (Nat.ne_of_lt lb)]
      exact (hf b hb).1
  done := by
    intro X hP hw hK hc i pins s σ H E I hf st hg
    subst hP hw hK
    obtain ⟨⟨old, he⟩, hit⟩ := st
    obtain ⟨xs, hq, hx⟩ := hg
    obtain ⟨its, rv, p, hz⟩ := I.tuple hq
    obtain ⟨f0, f1, f2, f3, f4, f5⟩ := hf it (by simp)
    have hl := rv.length
    have D' : Draws X.prog X.w X.A.in1 it [it, a] i (fun i v => its.toArray[i]? = some v) (fun j h => j = i ∧ h.IsTupleIter it a j ∧ h.IsTuple a its.toArray) :=
      { live := fun j h st => by
          obtain ⟨_, ⟨o, ho, _⟩, _⟩ := st
          exact ⟨o, ho⟩
        frame := fun j h h' st k => ⟨st.1, st.2.1.at fun o z => k it (by simp) o z, st.2.2.at fun o z => k a (by simp) o z⟩
        item := fun j s Q E hj st => by
          have := st.1
          omega
        done := fun s Q E st hE => wpAny_nextOf_tuple_end (I.ok.hd hc) st.2.1 st.2.2 (by simp; omega) hE }
    apply wpAny_pyNext_enum_endD D' he ⟨rfl, hit, p⟩
    intro h' eb
    exact ⟨rfl, I.turned (t' := s.toks) (fun b o hb z => eb b o hb z) f0 f1 f3 f4 f5⟩
  self := by
    rintro A i s Q E ⟨⟨_, he⟩, _⟩ h
    exact wpAny_pyIter_enum he h
def iEnumT (K : PySem.W.Frag) (ta : TA) : TI := fun σ H R => ta σ H fun vs H1 => ∃ a xs, vs = [.ref a] ∧ SqT K H1 a xs ∧ R (IteT K a) H1
theorem pi_enumT {X : Cx} {K : PySem.W.Frag} {e : Expr} {ta : TA} {p pos tpos : Pos} {elts : List Expr} {kk : Nat} (hK : X.K = K) (hg : Gl X "enumerate") (hm : X.mg "enumerate" = none) (ha : PA X [e] ta) (hs : starEach [e] X.env = [(false, eval e X.env)] := by rfl) :
    PI X (.Tuple elts kk tpos) (.Call (.Name "enumerate" p) [e] [] pos) (iEnumT K ta) := by
  subst hK
  constructor
  intro pins s σ H R I h
  refine Call_ (ld_blt I hg hm boot_enumerate (PyProof.Rows.callWith_type1 (thn (ha.run pos pins s σ H _ I h) ?_) hs rfl))
  rintro us s1 ⟨vs, H1, I1, r1, a, xs, rfl, hq, q⟩
  obtain ⟨u, rfl, rv⟩ := vals1 r1
  cases rv
  obtain ⟨its, rv, tp, hz⟩ := I1.tuple hq
  have la : a < s1.heap.objs.size := by
    obtain ⟨_, z, _⟩ := tp
    exact Heap.lt_size z
  have B := begins_tuple a its.toArray
  refine callType_new F.called_enumerate (by decide) (F.typeCall_enumerate_1 _) (F.newCall_enumerate_1 _) (fun obj => F.args_object_init_2 obj _) F.entry_enumerate_new (meets_enum1 B) ⟨tp, ?_⟩
  generalize hO : ({ cls := .type "tuple_iterator", data := .fields #[.ref a, .int 0 0] } : Obj) = O
  have z1 : (s1.heap.push O).objs.size = s1.heap.objs.size + 1 := Heap.size_push ..
  show _ ∧ _
  rw [z1]
  have he : IsEnum ((s1.heap.push O).push { cls := .type "enumerate", data := .fields #[.none, .bool false, .ref s1.heap.objs.size, rawInt 0, .none, .none] }) (s1.heap.objs.size + 1) s1.heap.objs.size 0 .none := by
    have z := Heap.get?_push_size (s1.heap.push O) (o := { cls := .type "enumerate", data := .fields #[.none, .bool false, .ref s1.heap.objs.size, rawInt 0, .none, .none] }) rfl
    rw [z1] at z
    exact z
  have hi : ((s1.heap.push O).push { cls := .type "enumerate", data := .fields #[.none, .bool false, .ref s1.heap.objs.size, rawInt 0, .none, .none] }).IsTupleIter s1.heap.objs.size a 0 := by
    refine ⟨O, Heap.get?_push_of_some _ (Heap.get?_push_size _ (by rw [← hO]; rfl)), by rw [← hO], by rw [← hO]; rfl⟩
  refine ⟨⟨_, he, rfl⟩, wpAny_pyIter_enum he ?_⟩
  have I2 := I1.kept (t' := s1.toks) (h' := (s1.heap.push O).push { cls := .type "enumerate", data := .fields #[.none, .bool false, .ref s1.heap.objs.size, rawInt 0, .none, .none] }) fun b o z => Heap.get?_push_of_some _ (Heap.get?_push_of_some _ z)
  refine ⟨s1.heap.objs.size + 1, [s1.heap.objs.size + 1, s1.heap.objs.size], _, _, H1, rfl, I2, turn_enumT a (s1.heap.objs.size + 1) s1.heap.objs.size (Nat.succ_ne_self _) (Nat.ne_of_gt (Nat.lt_succ_of_lt la)) (Nat.ne_of_lt la), ⟨⟨.none, he⟩, hi⟩, ?_, q⟩
  intro b hb
  have lb : s1.heap.objs.size ≤ b := by
    simp only [List.mem_cons, List.not_mem_nil, or_false] at hb
    rcases hb with rfl | rfl
    · exact Nat.le_succ _
    · exact Nat.le_refl _
  exact I1.fpOk lb (I1.hok.fresh lb)
/-- a walk over pairs (i, x) -/
def forE (J : It) (g : TG) (tb : TS) (D : Ends) (σ : L2.St) (H : Hp) : Prop := forJ g tb D σ J H
section
variable {K : PySem.W.Frag} {σ : L2.St} {H : Hp} {tA : TA} {a : Addr} {xs : List V} {N : L2.St → Hp → Prop} {R : VK} {Bk Ct : L2.St → Hp → Prop} {s1 : TS} {gt : TG}
def enT (K : PySem.W.Frag) (gt : TG) (s1 : TS) (D : Ends) (σ : L2.St) (vs : List V) (H1 : Hp) : Prop := ∃ a xs, vs = [.ref a] ∧ SqT K H1 a xs ∧ forJ gt s1 D σ (IteT K a) H1
def enL (K : PySem.W.Frag) (gt : TG) (s1 : TS) (D : Ends) (σ : L2.St) (vs : List V) (H1 : Hp) : Prop := ∃ a xs, vs = [.ref a] ∧ SqL K H1 a xs ∧ forJ gt s1 D σ (Ite K a) H1
theorem g_enT (q : tA σ H (enT K gt s1 ⟨N, R, Bk, Ct⟩ σ)) : tFor (iEnumT K tA) gt s1 ⟨N, R, Bk, Ct⟩ σ H := q
theorem g_enL (q : tA σ H (enL K gt s1 ⟨N, R, Bk, Ct⟩ σ)) : tFor (iEnum K tA) gt s1 ⟨N, R, Bk, Ct⟩ σ H := q
theorem enT_mk (Pv : Nat → L2.St → Hp → Prop) (hx : SqT K H a xs) (h0 : Pv 0 σ H) (hl : ∀ i σ H, i ≤ xs.length → Pv i σ H → SqT K H a xs)
    (hs : ∀ i x T σ H, xs[i]? = some x → Pv i σ H → H T = none → gt (.ref T) σ (upd H T (.tup [.int (i : Nat), x])) fun σ2 H2 => s1 ⟨Pv (i + 1), R, N, Pv (i + 1)⟩ σ2 H2) (hd : ∀ σ H, Pv xs.length σ H → N σ H) : enT K gt s1 ⟨N, R, Bk, Ct⟩ σ [.ref a] H := by
  refine ⟨a, xs, rfl, hx, fun i m σ H => m = xs.length - i ∧ i ≤ xs.length ∧ Pv i σ H, ⟨xs.length, by simp, Nat.zero_le _, h0⟩, ?_⟩
  rintro i m σ H ⟨rfl, hi, p⟩
  have q := hl i σ H hi p
  by_cases c : i < xs.length
  · refine .inr ⟨⟨xs, xs[i], q, List.getElem?_eq_getElem c⟩, Pv (i + 1), fun σ' H' p' => ⟨xs.length - (i + 1), by omega, rfl, c, p'⟩, ?_⟩
    rintro v H' ⟨T, x, rfl, hT, rfl, hx'⟩
    exact hs i x T σ H (hx' xs q) p hT
  · have e : i = xs.length := by omega
    subst e
    exact .inl ⟨⟨xs, q, Nat.le_refl _⟩, hd σ H p⟩
theorem enL_mk (Pv : Nat → L2.St → Hp → Prop) (hx : SqL K H a xs) (h0 : Pv 0 σ H) (hl : ∀ i σ H, i ≤ xs.length → Pv i σ H → SqL K H a xs)
    (hs : ∀ i x T σ H, xs[i]? = some x → Pv i σ H → H T = none → gt (.ref T) σ (upd H T (.tup [.int (i : Nat), x])) fun σ2 H2 => s1 ⟨Pv (i + 1), R, N, Pv (i + 1)⟩ σ2 H2) (hd : ∀ σ H, Pv xs.length σ H → N σ H) : enL K gt s1 ⟨N, R, Bk, Ct⟩ σ [.ref a] H := by
  refine ⟨a, xs, rfl, hx, fun i m σ H => m = xs.length - i ∧ i ≤ xs.length ∧ Pv i σ H, ⟨xs.length, by simp, Nat.zero_le _, h0⟩, ?_⟩
  rintro i m σ H ⟨rfl, hi, p⟩
  have q := hl i σ H hi p
  by_cases c : i < xs.length
  · refine .inr ⟨⟨xs, xs[i], q, List.getElem?_eq_getElem c⟩, Pv (i + 1), fun σ' H' p' => ⟨xs.length - (i + 1), by omega, rfl, c, p'⟩, ?_⟩
    rintro v H' ⟨T, x, rfl, hT, rfl, hx'⟩
    exact hs i x T σ H (hx' xs q) p hT
  · have e : i = xs.length := by omega
    subst e
    exact .inl ⟨⟨xs, q, Nat.le_refl _⟩, hd σ H p⟩
end
end SH
end

section
namespace SH
open PySem PySem.Spec PyProof.Rows L2
theorem Off.mutA {S : List Addr} {H H1 H2 : Hp} {a : Addr} (x : Off S H H1) (o : Off [a] H1 H2) (h : H a = none) : Off S H H2 :=
  ⟨fun b u n e => o.keep b u (by simpa using ne_of_none e h) (x.keep b u n e), fun b u e => o.tups b u (x.tups b u e), fun b u v e => o.frzs b u v (x.frzs b u v e), fun b u e => by
    obtain ⟨o', e'⟩ := x.live b u e
    exact o.live b o' e'⟩
theorem Off.muts {S U : List Addr} {H H1 H2 : Hp} (x : Off S H H1) (o : Off U H1 H2) (h : ∀ u ∈ U, u ∈ S ∨ H u = none) : Off S H H2 :=
  ⟨fun b u n e => o.keep b u (fun z => (h b z).elim n fun hn => by rw [hn] at e; cases e) (x.keep b u n e), fun b u e => o.tups b u (x.tups b u e), fun b u v e => o.frzs b u v (x.frzs b u v e), fun b u e => by
    obtain ⟨o', e'⟩ := x.live b u e
    exact o.live b o' e'⟩
/-! ### calls by names of parameters -/
def DefL (P : Program) (w : World) (K : PySem.W.Frag) (mg : Str → Option Value) (base : Heap) (x : Str) (k : Nat) (ps : List Str) (sp : Sp) : Prop :=
  ∃ f fd, FnOk P w K mg base (L2N.CX P w) k f fd ps sp ∧ mg x = some (.ref f) ∧ PySem.W.keepIn K (.ref f) = true ∧ Binds K fd ps [] ∧ ∃ oc od osl, K.lookup f = some ⟨oc, od, .func fd, osl⟩
section
variable {P : Program} {w : World} {K : PySem.W.Frag} {mg : Str → Option Value} {base : Heap} {x : Str} {st : Stmt} {N ps : List Str} {k : Nat} {sp : Sp}
theorem DefL.ok (D : DefL P w K mg base x k ps sp) : DefOk P w K mg base x k ps sp := by
  obtain ⟨f, fd, h1, h2, h3, h4, _⟩ := D
  exact ⟨f, fd, h1, h2, h3, h4⟩
theorem TopD.okL (T : TopD K mg x st) (S : FnScope N ps (defScope st))
    (hb : ∀ (kV doc pm : Value) (an : Option Addr) (cdv ct : Value) (us : List Value), us.length = ps.length → bindArgs (PySem.W.fnOf x x (defArgs st) (defBody st) (defScope st) .none kV doc pm an cdv ct) ⟨us, []⟩ = pure (ps.zip us))
    (len : ∀ vs H Q E, sp vs H Q E → vs.length = ps.length)
    (hbody : ∀ (f : Addr) (cdv : Value) (A : Around) (outer : List Env) (s : Shared) (H : Hp) (vs : List V) (Q : VK) (E : XK), Room k (A.deeper (envOfC x (defScope st) s.heap.objs.size f cdv)) → sp vs H Q E →
      ∃ t, PSs (cxOf (L2N.CX P w) P w K mg base N x (defScope st) f cdv A outer s H E) (defBody st) t ∧ t { nx := fun _ H' => Q .non H', rt := Q } (start N vs) H) : DefL P w K mg base x (k + 1) ps sp := by
  obtain ⟨f, fd, F, hm⟩ := T
  obtain ⟨oc, od, dV, kV, doc, pm, an, cdv, ct, osl, _, lk, _, _, _⟩ := F.ex
  exact ⟨f, fd, F.ok S len fun cdv A outer s H vs Q E hr h => hbody f cdv A outer s H vs Q E hr h, hm, F.kp, F.bindsN hb, oc, od, osl, lk⟩
end
def kwR (n : Nat) (gV : List V → List V) (sp : Sp) (E : XK) (Q : VK) (zs : List V) (H2 : Hp) : Prop := zs.length = n ∧ sp (gV zs) H2 Q E
def tCallKw (n : Nat) (gV : List V → List V) (sp : Sp) (E : XK) (tk : TA) : TE := fun σ H Q => tk σ H (kwR n gV sp E Q)
theorem pe_dfK0 {X : Cx} {x : Str} {k : Nat} {ps : List Str} {sp : Sp} {E : XK} {st : Stmt} {p pos : Pos} {kws : List Keyword} {tk : TA} {ks : List Str} {g : List Value → List Value} {gV : List V → List V} (D : DefL X.prog X.w X.K X.mg X.base x k ps sp) (T : TopD X.K X.mg x st)
    (hb : ∀ (kV doc pm : Value) (an : Option Addr) (cdv ct : Value) (us : List Value), us.length = ks.length → bindArgs (PySem.W.fnOf x x (defArgs st) (defBody st) (defScope st) .none kV doc pm an cdv ct) ⟨[], ks.zip us⟩ = pure (ps.zip (g us)))
    (hrel : ∀ {vs : List V} {us : List Value}, Vals vs us → vs.length = ks.length → Vals (gV vs) (g us)) (hr : Room k X.A) (hx : Passes (L2N.CX X.prog X.w) X E) (hkw : PK X kws tk) (hg : Gl X x := by rfl)
    (hall : (backToKw pos (keywordEach kws X.env)).all (·.1.isSome) = true := by rfl) (hks : (backToKw pos (keywordEach kws X.env)).filterMap (·.1) = ks := by rfl) (hdb : (x == ("__debug__" : Str)) = false := by decide)
    (hpl : ((backTo pos (starEach [] X.env)).any (·.1) || (backToKw pos (keywordEach kws X.env)).any (·.1.isNone)) = false := by rfl) : PE X (.Call (.Name x p) [] kws pos) (tCallKw ks.length gV sp E tk) := by
  obtain ⟨f, fd, F, hm, hk, _, oc, od, osl, lk⟩ := D
  obtain ⟨f', fd', FD, hm'⟩ := T
  cases hm.symm.trans hm'
  obtain ⟨oc', od', dV, kV, doc, pm, an, cdv, ct, osl', rfl, lk', _, hD, _⟩ := FD.ex
  cases lk.symm.trans lk'
  rcases hD with ⟨_, rfl⟩ | ⟨e, _⟩
  · constructor
    intro pins s σ H Q I h
    apply wpAny_Call_Name_kw (ld_glob I hg hm ?_ hdb)
    apply PySem.W.callWith_KW0 (h₀ := X.base) I.ok.mod.kin hk hall ?_ hpl
    refine thn (hkw.run pos pins s σ H _ I h) ?_
    rintro ws s2 ⟨zs, H2, I2, rz, l, q⟩
    refine ⟨I2.kIn, ?_⟩
    rw [hks]
    have bd := BindsTo.of_eq (s := s2) (hb kV doc pm an cdv ct ws (rz.length.symm.trans l))
    have run := F.run X.A X.stack s2 H2 ⟨[], ks.zip ws⟩ (g ws) (gV zs) Q E hr I2.env0 bd (hrel rz l) q
    refine wpAny_call (codeAny_mono run ?_)
    intro res s3 z
    match res, z with
    | .error er, z => exact hx pins σ H2 s2 er s3 I2 z
    | .ok (.ret u), z => exact I2.after z
    | .ok .next, z => exact z.elim
    | .ok .brk, z => exact z.elim
    | .ok .cont, z => exact z.elim
  · exact absurd rfl e
theorem pi_enumK {X : Cx} {K : PySem.W.Frag} {e : Expr} {ta : TA} {p pos tpos : Pos} {elts : List Expr} {kk : Nat} (hK : X.K = K) (hg : Gl X "enumerate") (hm : X.mg "enumerate" = none) (ha : PA X [e] ta) (hs : starEach [e] X.env = [(false, eval e X.env)] := by rfl) :
    PI X (.Tuple elts kk tpos) (.Call (.Name "enumerate" p) [e] [] pos) (iEnum K ta) := by
  subst hK
  exact pi_enum hg hm ha hs
theorem br_int {c : Prop} [Decidable c] {i j : Int} {σ : L2.St} {H : Hp} {k : VK} (q : k (.int (if c then i else j)) H) : br (decide c) (tC (.int i) σ H k) (tC (.int j) σ H k) :=
  br_d (fun h => by rw [if_pos h] at q; exact q) (fun h => by rw [if_neg h] at q; exact q)
def sw {α : Type} : List α → List α
  | [a, b] => [b, a]
  | l => l
theorem rel_id {vs : List V} {us : List Value} {n : Nat} (r : Vals vs us) (_ : vs.length = n) : Vals (id vs) (id us) := r
theorem rel_sw {vs : List V} {us : List Value} {n : Nat} (r : Vals vs us) (_ : vs.length = n) : Vals (sw vs) (sw us) := by
  match vs, us, r with
  | [], _, .nil => exact .nil
  | [_], _, .cons r .nil => exact .cons r .nil
  | [_, _], _, .cons r (.cons r2 .nil) => exact .cons r2 (.cons r .nil)
  | _ :: _ :: _ :: _, _, .cons r (.cons r2 (.cons r3 t)) => exact .cons r (.cons r2 (.cons r3 t))
section
variable {σ : L2.St} {H : Hp} {Q : VK} {sp : Sp} {E : XK} {tk : TA} {n : Nat} {gV : List V → List V} {zs : List V}
theorem g_kw (q : tk σ H (kwR n gV sp E Q)) : tCallKw n gV sp E tk σ H Q := q
theorem g_kwR (h : zs.length = n) (q : sp (gV zs) H Q E) : kwR n gV sp E Q zs H := ⟨h, q⟩
end
end SH
end

section
namespace SH
open PySem PySem.Spec PyProof.Rows L2
/-! ### own ==, and != by it; methods and makers called by keywords -/
section
variable {M : Model} {prog : Program} {w : World} {A : Around} {E : Value → Shared → Prop} {s : Shared} {K : PySem.W.Frag} {x C f L : Addr} {ox : Obj} {od : Option Obj} {h₀ : Heap} {m : Str → Option Value} {b tb : Value}
theorem ifBound_objNe {args : List Value} {Q : Option Value → Shared → Prop} (X : K.In s.heap) (I : PySem.W.InstAt s.heap x ox C od) (hs : PySem.W.findIn K (.ref C) "__ne__" = some (some (.builtin "object.__ne__")))
    (h : wpAny M A (call (.builtin "object.__ne__") (.ref x :: args)) (fun v => Q (some v)) E s) : wpAny M A (callSpecialIfBound? (.ref x) "__ne__" args) Q E s := by
  simp only [callSpecialIfBound?, bindSpecialIfBound?]
  refine wpAny_holding (wpAny_bind (wpAny_bind (wpAny_bind (I.type.here ((PySem.W.looks_findIn X hs).here ?_)))))
  apply wpAny_bind
  apply wpAny_askSetting
  apply wpAny_ite
  have last : wpAny M A (call (.builtin "object.__ne__") ([.ref x] ++ args) >>= fun v => pure (some v)) Q E s := by
    apply wpAny_bind
    exact wpAny_mono h (fun _ _ z => wpAny_pure z) fun _ _ z => z
  have nb := F.cmp_object.ne.bind (.ref x)
  split
  · apply wpAny_bind
    exact wpAny_of_eq nb (wpAny_pure last)
  · apply wpAny_tryCatch
    apply wpAny_bind
    exact wpAny_of_eq nb (wpAny_pure last)
theorem entry_objNe {Q : Fin → Shared → Prop} (hu : A.units < cLine) (X : K.In s.heap) (I : PySem.W.InstAt s.heap x ox C od) (he : PySem.W.findIn K (.ref C) "__eq__" = some (some (.ref f))) (hf : PySem.W.isFn K (.ref f) = true)
    (h : wpAny (model prog w) A (call (.ref f) [.ref x, b]) (fun v s' => ∃ r, v = .bool r ∧ Q (.done (.ret (.bool (!r)))) s') E s) : wpAny (model prog w) A (Builtin.«object.__ne__» ⟨[.ref x, b], []⟩) Q E s := by
  unfold Builtin.«object.__ne__»
  repeat (first
    | with_reducible refine wpAny_cRoomFor hu ?_
    | (refine wpAny_bind (m := callSpecialIfBound? (.ref x) (Str.ofString "__eq__") [b]) (PySem.W.ifBound_K X I he hf (wpAny_mono h ?_ fun _ _ e => e))
       rintro v s' ⟨r, rfl, hq⟩
       repeat (first | exact hq | exact wpAny_pure hq | exact wpAny_truthy_bool hq | (refine wpAny_bind (m := truthy (.bool _)) (wpAny_truthy_bool ?_)) | wp_step))
    | wp_step)
theorem cmpNe_K {Q : Value → Shared → Prop} (hu : A.units + 1 < cLine) (F0 : Fr h₀ L s.heap m) (X₀ : K.In h₀) (I : PySem.W.InstAt s.heap x ox C od) (hb : PySem.W.Looks (model prog w) s.heap (typeOf b) tb) (hn : PySem.W.notFirst K C tb = true)
    (hne : PySem.W.findIn K (.ref C) "__ne__" = some (some (.builtin "object.__ne__"))) (hm : PySem.W.mroIn K C (.type "object") = some true) (he : PySem.W.findIn K (.ref C) "__eq__" = some (some (.ref f))) (hf : PySem.W.isFn K (.ref f) = true)
    (h : wpAny (model prog w) A.in1 (call (.ref f) [.ref x, b]) (fun v s' => ∃ r, v = .bool r ∧ Q (.bool (!r)) s') E s) : wpAny (model prog w) A (richCompare .NotEq (.ref x) b) Q E s := by
  have X := X₀.keeps F0.keep
  have one : wpAny (model prog w) A (tryCompare (.ref x) "__ne__" b) (fun r s' => ∃ v, r = some v ∧ Q v s') E s := by
    unfold tryCompare
    refine wpAny_bind (ifBound_objNe X I hne ?_)
    refine wpAny_call (codeAny_call_builtin F.cmp_object.ne.plain F.cmpEntry_ne (PySem.W.check_slot F.cmpKind_ne F.cmpSplit_ne (I.type.andThen (PySem.W.looks_mroIn X hm)) (F.cmpArgs_ne _ _) ?_))
    refine entry_objNe hu X I he hf (wpAny_mono h ?_ fun _ _ e => e)
    rintro v s' ⟨r, rfl, hq⟩
    exact ⟨r, rfl, wpAny_pure ⟨_, rfl, hq⟩⟩
  unfold richCompare
  simp only [oneThing_ref]
  refine wpAny_holding (wpAny_bind (wpAny_cRoomFor (Nat.lt_of_succ_lt hu) ?_))
  rw [cmpInfo_NotEq]
  dsimp only
  refine wpAny_bind (I.type.here (wpAny_bind (hb.here ?_)))
  have fin : ∀ rr, wpAny (model prog w) A rr (fun r s' => ∃ v, r = some v ∧ Q v s') E s → True := fun _ _ => trivial
  split
  · rename_i q
    have e : PySem.W.subIn K tb (.ref C) = some false := by
      rcases Bool.or_eq_true_iff.mp hn with e | e
      · rw [beq_iff_eq.mp e] at q; simp at q
      · exact beq_iff_eq.mp e
    refine wpAny_bind ((PySem.W.looks_subIn X e).here ?_)
    simp only [Bool.false_eq_true, if_false]
    refine wpAny_bind (wpAny_mono one ?_ fun _ _ e => e)
    rintro r s' ⟨v, rfl, hq⟩
    exact wpAny_pure hq
  · refine wpAny_bind (wpAny_pure ?_)
    simp only [Bool.false_eq_true, if_false]
    refine wpAny_bind (wpAny_mono one ?_ fun _ _ e => e)
    rintro r s' ⟨v, rfl, hq⟩
    exact wpAny_pure hq
end
/-- what != by an own == asks of the class -/
structure NeOk (K : PySem.W.Frag) (C : Addr) : Prop where
  ne : PySem.W.findIn K (.ref C) "__ne__" = some (some (.builtin "object.__ne__"))
  mo : PySem.W.mroIn K C (.type "object") = some true
def neB (K : PySem.W.Frag) (C : Addr) : Bool := decide (PySem.W.findIn K (.ref C) "__ne__" = some (some (.builtin "object.__ne__"))) && decide (PySem.W.mroIn K C (.type "object") = some true)
theorem neB_ok {K : PySem.W.Frag} {C : Addr} (h : neB K C = true) : NeOk K C := by
  unfold neB at h
  rw [Bool.and_eq_true] at h
  exact ⟨of_decide_eq_true h.1, of_decide_eq_true h.2⟩
/-- the other side: of the same class, or None -/
def Oth (H : Hp) (C : Addr) (y : V) : Prop := y = .non ∨ ∃ b dy gs, y = .ref b ∧ H b = some (.ins C dy gs)
def rOwnE (C : Addr) (sp : Sp) (E : XK) : R2 := fun x y H Q => ∃ a dx fs, x = .ref a ∧ H a = some (.ins C dx fs) ∧ Oth H C y ∧ sp [x, y] H (fun v H' => ∃ b, v = .bl b ∧ Q (.bl b) H') E
def rOwnN (C : Addr) (sp : Sp) (E : XK) : R2 := fun x y H Q => ∃ a dx fs, x = .ref a ∧ H a = some (.ins C dx fs) ∧ Oth H C y ∧ sp [x, y] H (fun v H' => ∃ b, v = .bl b ∧ Q (.bl (!b)) H') E
section
variable {X : Cx} {C : Addr} {k : Nat} {ps : List Str} {sp : Sp} {E : XK}
theorem oth_looks {pins : List (Addr × Obj)} {σ : L2.St} {H : Hp} {s : Shared} {y : V} {u : Value} (I : Inv X pins σ H s) (r : RelV y u) (h : Oth H C y) : ∃ tb, PySem.W.Looks (model X.prog X.w) s.heap (typeOf u) tb ∧ PySem.W.notFirst X.K C tb = true := by
  rcases h with rfl | ⟨b, dy, gs, rfl, hb⟩
  · cases r
    refine ⟨.type "NoneType", PySem.W.Looks.of_pure rfl, ?_⟩
    unfold PySem.W.notFirst
    rw [HN.sub_none]
    simp
  · cases r
    obtain ⟨mB, J', _⟩ := ins_get I.hok hb
    obtain ⟨od', J', _⟩ := J'.look
    exact ⟨.ref C, J'.type, by simp [PySem.W.notFirst]⟩
theorem op_ownE (D : MthOk X.prog X.w X.K X.mg X.base C "__eq__" k ps sp) (hr : Room k X.A) (hx : Passes (L2N.CX X.prog X.w) X E) : OpR X (compareOp .Eq) (rOwnE C sp E) := by
  obtain ⟨f, fd, F, hm, hb, hc⟩ := D
  intro pins s σ H x y v u Q I rx ry h
  obtain ⟨a, dx, fs, rfl, ha, ho, q⟩ := h
  cases rx
  obtain ⟨mA, J, _⟩ := ins_get I.hok ha
  obtain ⟨od, J, _⟩ := J.look
  obtain ⟨tb, lk, nf⟩ := oth_looks I ry ho
  obtain ⟨m, hF⟩ := I.fr
  show wpAny (model X.prog X.w) X.A (richCompare .Eq (.ref a) u) (EP X pins σ Q) X.xe s
  refine PySem.W.cmp_K (op := .Eq) hr.units0 hF I.ok.mod.kin J lk nf hm.at_ hm.fn ?_
  have run := run_fn (us := [.ref a, u]) (vs := [.ref a, y]) (ds := []) (dvs := []) F hr hb .nil hx I (.cons rfl (.cons ry .nil)) q
  refine wpAny_mono run ?_ fun _ _ z => z
  rintro r s' ⟨z, H', I', rz, b, rfl, qz⟩
  cases (show r = Value.bool b from rz)
  exact ⟨.bl b, H', I', rfl, qz⟩
theorem op_ownN (D : MthOk X.prog X.w X.K X.mg X.base C "__eq__" k ps sp) (n : NeOk X.K C) (hr : Room (k + 1) X.A) (hx : Passes (L2N.CX X.prog X.w) X E) : OpR X (compareOp .NotEq) (rOwnN C sp E) := by
  obtain ⟨f, fd, F, hm, hb, hc⟩ := D
  intro pins s σ H x y v u Q I rx ry h
  obtain ⟨a, dx, fs, rfl, ha, ho, q⟩ := h
  cases rx
  obtain ⟨mA, J, _⟩ := ins_get I.hok ha
  obtain ⟨od, J, _⟩ := J.look
  obtain ⟨tb, lk, nf⟩ := oth_looks I ry ho
  obtain ⟨m, hF⟩ := I.fr
  show wpAny (model X.prog X.w) X.A (richCompare .NotEq (.ref a) u) (EP X pins σ Q) X.xe s
  have hl := F.len _ _ _ _ q
  refine cmpNe_K (Nat.lt_of_le_of_lt (Nat.add_le_add_left (by decide) _) hr.units) hF I.ok.mod.kin J lk nf n.ne n.mo hm.at_ hm.fn ?_
  have bd := hb s [.ref a, u] I.kIn (by rw [List.append_nil]; simpa using hl)
  rw [List.append_nil] at bd
  have run := F.run X.A.in1 X.stack s H ⟨[.ref a, u], []⟩ [.ref a, u] [.ref a, y] _ E hr.in1 I.env0.in1 bd (.cons rfl (.cons ry .nil)) q
  refine wpAny_call (codeAny_mono run ?_)
  intro res s2 z
  match res, z with
  | .error er, z => exact hx pins σ H s er s2 I z
  | .ok (.ret r), z =>
    obtain ⟨zv, H', I', rz, b, rfl, qz⟩ := I.after z
    cases (show r = Value.bool b from rz)
    exact ⟨b, rfl, .bl (!b), H', I', rfl, qz⟩
  | .ok .next, z => exact z.elim
  | .ok .brk, z => exact z.elim
  | .ok .cont, z => exact z.elim
end
section
variable {K : PySem.W.Frag} {H : Hp} {Q : VK} {E : XK} {C a b dx dy : Addr} {fs gs : List (Str × V)} {sp : Sp}
theorem g_ownE (h : H a = some (.ins C dx fs)) (h2 : H b = some (.ins C dy gs)) (q : sp [.ref a, .ref b] H (fun v H' => ∃ b, v = .bl b ∧ Q (.bl b) H') E) : rOwnE C sp E (.ref a) (.ref b) H Q := ⟨a, dx, fs, rfl, h, .inr ⟨b, dy, gs, rfl, h2⟩, q⟩
theorem g_ownE0 (h : H a = some (.ins C dx fs)) (q : sp [.ref a, .non] H (fun v H' => ∃ b, v = .bl b ∧ Q (.bl b) H') E) : rOwnE C sp E (.ref a) .non H Q := ⟨a, dx, fs, rfl, h, .inl rfl, q⟩
theorem g_ownN (h : H a = some (.ins C dx fs)) (h2 : H b = some (.ins C dy gs)) (q : sp [.ref a, .ref b] H (fun v H' => ∃ b, v = .bl b ∧ Q (.bl (!b)) H') E) : rOwnN C sp E (.ref a) (.ref b) H Q := ⟨a, dx, fs, rfl, h, .inr ⟨b, dy, gs, rfl, h2⟩, q⟩
end
/-! #### methods and makers called by keywords alone -/
def MthL (P : Program) (w : World) (K : PySem.W.Frag) (mg : Str → Option Value) (base : Heap) (C : Addr) (m : Str) (k : Nat) (ps : List Str) (sp : Sp) : Prop :=
  ∃ f fd, FnOk P w K mg base (L2N.CX P w) k f fd ps sp ∧ Meth K C m f ∧ Binds K fd ps [] ∧ Cls K C ∧ ∃ oc od osl, K.lookup f = some ⟨oc, od, .func fd, osl⟩
def MkL (P : Program) (w : World) (K : PySem.W.Frag) (mg : Str → Option Value) (base : Heap) (x : Str) (C : Addr) (k : Nat) (ps : List Str) (sp : Sp) : Prop :=
  ∃ f fd, FnOk P w K mg base (L2N.CX P w) k f fd ps sp ∧ Mk K C f ∧ mg x = some (.ref C) ∧ Binds K fd ps [] ∧ ∃ oc od osl, K.lookup f = some ⟨oc, od, .func fd, osl⟩
section
variable {P : Program} {w : World} {K : PySem.W.Frag} {mg : Str → Option Value} {base : Heap} {x qual : Str} {st : Stmt} {N ps : List Str} {k : Nat} {sp : Sp} {C : Addr}
theorem TopM.okL (T : TopM K C x qual st) (c : Cls K C) (S : FnScope N ps (defScope st))
    (hb : ∀ (kV doc pm : Value) (an : Option Addr) (cdv ct : Value) (us : List Value), us.length = ps.length → bindArgs (PySem.W.fnOf x qual (defArgs st) (defBody st) (defScope st) .none kV doc pm an cdv ct) ⟨us, []⟩ = pure (ps.zip us))
    (len : ∀ vs H Q E, sp vs H Q E → vs.length = ps.length)
    (hbody : ∀ (f : Addr) (cdv : Value) (A : Around) (outer : List Env) (s : Shared) (H : Hp) (vs : List V) (Q : VK) (E : XK), Room k (A.deeper (envOfC qual (defScope st) s.heap.objs.size f cdv)) → sp vs H Q E →
      ∃ t, PSs (cxOf (L2N.CX P w) P w K mg base N qual (defScope st) f cdv A outer s H E) (defBody st) t ∧ t { nx := fun _ H' => Q .non H', rt := Q } (start N vs) H) : MthL P w K mg base C x (k + 1) ps sp := by
  obtain ⟨f, fd, F, hm⟩ := T
  obtain ⟨oc, od, dV, kV, doc, pm, an, cdv, ct, osl, _, lk, _, _, _⟩ := F.ex
  exact ⟨f, fd, F.ok S len fun cdv A outer s H vs Q E hr h => hbody f cdv A outer s H vs Q E hr h, hm, F.bindsN hb, c, oc, od, osl, lk⟩
theorem TopI.okL (T : TopI K mg x C qual st) (S : FnScope N ps (defScope st))
    (hb : ∀ (kV doc pm : Value) (an : Option Addr) (cdv ct : Value) (us : List Value), us.length = ps.length → bindArgs (PySem.W.fnOf "__init__" qual (defArgs st) (defBody st) (defScope st) .none kV doc pm an cdv ct) ⟨us, []⟩ = pure (ps.zip us))
    (len : ∀ vs H Q E, sp vs H Q E → vs.length = ps.length)
    (hbody : ∀ (f : Addr) (cdv : Value) (A : Around) (outer : List Env) (s : Shared) (H : Hp) (vs : List V) (Q : VK) (E : XK), Room k (A.deeper (envOfC qual (defScope st) s.heap.objs.size f cdv)) → sp vs H Q E →
      ∃ t, PSs (cxOf (L2N.CX P w) P w K mg base N qual (defScope st) f cdv A outer s H E) (defBody st) t ∧ t { nx := fun _ H' => Q .non H', rt := Q } (start N vs) H) : MkL P w K mg base x C (k + 1) ps sp := by
  obtain ⟨f, fd, F, hm, hx⟩ := T
  obtain ⟨oc, od, dV, kV, doc, pm, an, cdv, ct, osl, _, lk, _, _, _⟩ := F.ex
  exact ⟨f, fd, F.ok S len fun cdv A outer s H vs Q E hr h => hbody f cdv A outer s H vs Q E hr h, hm, hx, F.bindsN hb, oc, od, osl, lk⟩
theorem MthL.ok (D : MthL P w K mg base C x k ps sp) : MthOk P w K mg base C x k ps sp := by
  obtain ⟨f, fd, a, b, c, d, _⟩ := D
  exact ⟨f, fd, a, b, c, d⟩
theorem MkL.ok (D : MkL P w K mg base x C k ps sp) : MkOk P w K mg base x C k ps sp := by
  obtain ⟨f, fd, a, b, c, d, _⟩ := D
  exact ⟨f, fd, a, b, c, d⟩
end
def tMethK (C : Addr) (m : Str) (n : Nat) (sp : Sp) (E : XK) (ta : TE) (tk : TA) : TE := fun σ H Q => ta σ H fun x H1 => insR C m x H1 (tk σ H1 (kwR n (fun zs => x :: zs) sp E Q))
def tMakeK (C : Addr) (n : Nat) (sp : Sp) (E : XK) (tk : TA) : TE := fun σ H Q => tk σ H fun zs H2 => zs.length = n ∧ ∀ x dx, H2 x = none → H2 dx = none → dx ≠ x → sp (.ref x :: zs) (upd (upd H2 dx (.own x)) x (.ins C dx [])) (fun v H3 => v = .non ∧ Q (.ref x) H3) E
section
variable {X : Cx} {x m qual : Str} {k : Nat} {ps ks : List Str} {sp : Sp} {C : Addr} {E : XK} {p pos apos : Pos} {o : Expr} {ta : TE} {tk : TA} {kws : List Keyword} {st : Stmt}
theorem pe_mthK {pl : Sem Bool} (D : MthL X.prog X.w X.K X.mg X.base C m k ps sp) (T : TopM X.K C m qual st)
    (hb : ∀ (kV doc pm : Value) (an : Option Addr) (cdv ct x : Value) (us : List Value), us.length = ks.length → bindArgs (PySem.W.fnOf m qual (defArgs st) (defBody st) (defScope st) .none kV doc pm an cdv ct) ⟨[x], ks.zip us⟩ = pure (ps.zip (x :: us)))
    (hr : Room k X.A) (hx : Passes (L2N.CX X.prog X.w) X E) (ho : PE X o ta) (hkw : PK X kws tk)
    (hall : (backToKw pos (keywordEach kws X.env)).all (·.1.isSome) = true := by rfl) (hks : (backToKw pos (keywordEach kws X.env)).filterMap (·.1) = ks := by rfl)
    (hpl : ((backTo pos (starEach [] X.env)).any (·.1) || (backToKw pos (keywordEach kws X.env)).any (·.1.isNone)) = false := by rfl)
    (ht : eval (.Call (.Attribute o m apos) [] kws pos) X.env = (do
      let ov ← eval o X.env
      standAt apos.atName
      let (f, first) ← holding [ov] (getMethod ov m pl)
      callWith pos f first (backTo pos (starEach [] X.env)) (backToKw pos (keywordEach kws X.env))) := by rfl) :
    PE X (.Call (.Attribute o m apos) [] kws pos) (tMethK C m ks.length sp E ta tk) := by
  obtain ⟨f, fd, F, hm, _, hc, oc, od, osl, lk⟩ := D
  obtain ⟨f', fd', FD, hm'⟩ := T
  have e := hm.at_.symm.trans hm'.at_
  cases e
  obtain ⟨oc', od', dV, kV, doc, pm, an, cdv, ct, osl', rfl, lk', _, hD, _⟩ := FD.ex
  cases lk.symm.trans lk'
  rcases hD with ⟨_, rfl⟩ | ⟨e, _⟩
  · constructor
    intro pins s σ H Q I h
    have run := ho.run pins s σ H _ I h
    refine PySem.W.methodCall_KW (pl := pl) (thn run ?_) ht
    rintro u s1 ⟨y, H1, I1, ry, a, dx, fs, rfl, ea, l, q⟩
    cases (show u = Value.ref a from ry)
    apply getmeth_ok I1 ea hc hm l
    apply PySem.W.callWith_KW0 (h₀ := X.base) (first := [.ref a]) I.ok.mod.kin hm.kp hall ?_ hpl
    refine thn (hkw.run pos pins s1 σ H1 _ I1 q) ?_
    rintro ws s2 ⟨zs, H2, I2, rz, l2, q2⟩
    refine ⟨I2.kIn, ?_⟩
    rw [hks]
    have bd := BindsTo.of_eq (s := s2) (hb kV doc pm an cdv ct (.ref a) ws (rz.length.symm.trans l2))
    have run := F.run X.A X.stack s2 H2 ⟨[.ref a], ks.zip ws⟩ (.ref a :: ws) (.ref a :: zs) Q E hr I2.env0 bd (.cons rfl rz) q2
    refine wpAny_call (codeAny_mono run ?_)
    intro res s3 z
    match res, z with
    | .error er, z => exact hx pins σ H2 s2 er s3 I2 z
    | .ok (.ret u), z => exact I2.after z
    | .ok .next, z => exact z.elim
    | .ok .brk, z => exact z.elim
    | .ok .cont, z => exact z.elim
  · exact absurd rfl e
theorem pe_mkK (D : MkL X.prog X.w X.K X.mg X.base x C k ps sp) (T : TopI X.K X.mg x C qual st)
    (hb : ∀ (kV doc pm : Value) (an : Option Addr) (cdv ct x : Value) (us : List Value), us.length = ks.length → bindArgs (PySem.W.fnOf "__init__" qual (defArgs st) (defBody st) (defScope st) .none kV doc pm an cdv ct) ⟨[x], ks.zip us⟩ = pure (ps.zip (x :: us)))
    (hr : Room (k + 1) X.A) (hx : Passes (L2N.CX X.prog X.w) X E) (hkw : PK X kws tk) (hg : Gl X x := by rfl)
    (hall : (backToKw pos (keywordEach kws X.env)).all (·.1.isSome) = true := by rfl) (hks : (backToKw pos (keywordEach kws X.env)).filterMap (·.1) = ks := by rfl) (hdb : (x == ("__debug__" : Str)) = false := by decide)
    (hpl : ((backTo pos (starEach [] X.env)).any (·.1) || (backToKw pos (keywordEach kws X.env)).any (·.1.isNone)) = false := by rfl) : PE X (.Call (.Name x p) [] kws pos) (tMakeK C ks.length sp E tk) := by
  obtain ⟨f, fd, F, hm, hmx, _, oc, od, osl, lk⟩ := D
  obtain ⟨f', fd', FD, hm', _⟩ := T
  have e := hm.init.symm.trans hm'.init
  cases e
  obtain ⟨oc', od', dV, kV, doc, pm, an, cdv, ct, osl', rfl, lk', _, hD, _⟩ := FD.ex
  cases lk.symm.trans lk'
  rcases hD with ⟨_, rfl⟩ | ⟨e, _⟩
  · have kb : KBn X.K (PySem.W.fnOf "__init__" qual (defArgs st) (defBody st) (defScope st) .none kV doc pm an cdv ct) ps (0 + 1) ks (fun us ws => us ++ ws) (fun vs zs => vs ++ zs) := by
      refine ⟨fun s us ws _ l1 l2 => ?_, fun r1 r2 => r1.append r2⟩
      match us, l1 with
      | [u], _ => exact BindsTo.of_eq (hb kV doc pm an cdv ct u ws l2)
    constructor
    intro pins s σ H Q I h
    apply wpAny_Call_Name_kw (ld_glob I hg hmx ?_ hdb)
    apply PySem.W.callWith_KW0 (h₀ := X.base) I.ok.mod.kin hm.kp hall ?_ hpl
    refine thn (hkw.run pos pins s σ H _ I h) ?_
    rintro ws s2 ⟨zs, H2, I2, rz, l, q⟩
    refine ⟨I2.kIn, ?_⟩
    rw [hks]
    exact run_makeN (n := 0) (us := []) (vs := []) hm F hr kb hx I2 .nil rz rfl l q
  · exact absurd rfl e
end
section
variable {σ : L2.St} {H : Hp} {Q : VK} {sp : Sp} {E : XK} {tk : TA} {ta : TE} {n : Nat} {C : Addr} {m : Str} {zs : List V}
theorem g_methK (q : ta σ H fun x H1 => insR C m x H1 (tk σ H1 (kwR n (fun zs => x :: zs) sp E Q))) : tMethK C m n sp E ta tk σ H Q := q
theorem g_makeK (q : tk σ H fun zs H2 => zs.length = n ∧ ∀ x dx, H2 x = none → H2 dx = none → dx ≠ x → sp (.ref x :: zs) (upd (upd H2 dx (.own x)) x (.ins C dx [])) (fun v H3 => v = .non ∧ Q (.ref x) H3) E) : tMakeK C n sp E tk σ H Q := q
theorem g_makeK1 {M : Prop} (h : zs.length = n) (q : M) : zs.length = n ∧ M := ⟨h, q⟩
end
end SH
end

section
/-! ### own errors whose __init__ says super().__init__(e), then self.f = e; their class stands under another own class under ValueError -/
namespace PySem
namespace XsX
open PySem.W PySem.Calls PyProof.Rows PySem.HandSPX
def iA (f : Str) (p1 p2 : Pos) : Arguments := { posonlyargs := [], args := [{ arg := "self", annotation := none, pos := p1 }, { arg := f, annotation := none, pos := p2 }], vararg := none, kwonlyargs := [], kw_defaults := [], kwarg := none, defaults := [] }
def iB (f : Str) (q0 q1 q2 q3 q4 q5 q6 q7 q8 q9 : Pos) : List Stmt :=
  [.Expr (.Call (.Attribute (.Call (.Name "super" q0) [] [] q1) "__init__" q2) [.Name f q3] [] q4) q5, .Assign [.Attribute (.Name "self" q6) f q7] (.Name f q8) q9]
def iS (f : Str) : Scope := { kind := .function, names := [(PySem.Str.ofString "self", .local), (f, .local), (PySem.Str.ofString "__class__", .free), (PySem.Str.ofString "super", .globalImplicit)], isGenerator := false, isCoroutine := false, more := [] }
structure NmOk (f : Str) : Prop where
  l1 : (iS f).names.lookup ("self" : Str) = some NameKind.local
  l2 : (iS f).names.lookup f = some NameKind.local
  l3 : (iS f).names.lookup ("__class__" : Str) = some NameKind.free
  l4 : (iS f).names.lookup ("super" : Str) = some NameKind.globalImplicit
  ne : ¬ ("self" : Str) = f
  nd : (f == ("__debug__" : Str)) = false
/-- what the written part says of the class at C, its field f, its __init__ at fI -/
structure XsTxt (prog : Program) (K : Frag) (mg : Str → Option Value) (x f : Str) (C fI : Addr) : Prop where
  nm : NmOk f
  gC : mg x = some (.ref C)
  cls : ∃ nm q N bs bm sn sub ab col dd k0 k1 k2 k3 k5, K.lookup C = some (excClassObj nm q C N bs bm true sn sub ab col dd k0 k1 k2 k3 k5 "ValueError.__new__") ∧ refsVE bm = true
  sup : ks_superIn K C C "__init__" = some (some (.builtin "ValueError.__init__"))
  sa : findIn K (.ref C) "__setattr__" = some (some (.builtin "object.__setattr__"))
  noF : findIn K (.ref C) f = some none
  iC : findIn K (.ref C) "__init__" = some (some (.ref fI))
  tC : typeIn K (.ref fI) = some (.type "function")
  kC : keepIn K (.ref C) = true
  exC : subIn K (.ref C) (.type "BaseException") = some true
  vC : subIn K (.ref C) (.type "ValueError") = some true
  mC : mroIn K C (.ref C) = some true
  tyC : typeIn K (.ref C) = some (.type "type")
  top : (prog.main.scope.names.lookup ("super" : Str)).isSome = false
  sg : nsIn K mainGlobals "super" = some none
  tp : nsIn K cStatics "thirdparty.any" = some none
  fn : ∃ (qual : Str) (oc : Value) (od : Option Addr) (doc pm : Value) (an : Option Addr) (cda cc : Addr) (ct : Value) (osl : Array (Option Value)) (p1 p2 q0 q1 q2 q3 q4 q5 q6 q7 q8 q9 : Pos)
      (ccl : Value) (cdd : Option Addr) (vs : Array Value) (ccs : Array (Option Value)) (file : Str) (tf : Tok) (cl : Value) (cld : Option Addr) (csl : Array (Option Value)),
    K.lookup fI = some ⟨oc, od, .func (ksFn "__init__" qual (iA f p1 p2) (iB f q0 q1 q2 q3 q4 q5 q6 q7 q8 q9) (iS f) .none .none doc pm an (.ref cda) ct cc), osl⟩ ∧ codeIn K (.ref cda) qual = true ∧
    K.lookup cda = some ⟨ccl, cdd, .fields vs, ccs⟩ ∧ vs[2]? = some (.str file tf) ∧ ((prog.main.file : Str) == file) = true ∧ K.lookup cc = some ⟨cl, cld, .cell (some (.ref C)), csl⟩ ∧ (q2.endLine == q4.line) = true
/-- what __init__ leaves of a fresh exception at x -/
structure InitEnd (h h' : Heap) (x C dx t1 : Addr) (f : Str) (v : Value) : Prop where
  keep : ∀ b o, b ≠ x → h.get? b = some o → h'.get? b = some o
  obj : h'.get? x = some { cls := .ref C, dict := some dx, data := .fields #[.ref t1, .none, .none, .none, .bool false, .none] }
  dbig : h.objs.size ≤ dx
  dne : dx ≠ x
  ns : h'.Ns1 dx (fun y => if y = f then some v else none)
structure OwnMade (h h' : Heap) (e C d : Addr) (f : Str) (v : Value) : Prop where
  keep : ∀ b o, h.get? b = some o → h'.get? b = some o
  new : h.objs.size ≤ e
  obj : ∃ oe vs, h'.get? e = some oe ∧ oe.cls = .ref C ∧ oe.dict = some d ∧ oe.data = .fields vs ∧ vs[1]? = some .none ∧ vs[2]? = some .none ∧ 4 < vs.size
  dbig : h.objs.size ≤ d
  dne : d ≠ e
  ns : h'.Ns1 d (fun y => if y = f then some v else none)
theorem mc_eq {env : Env} {o : Expr} {name x : Str} {apos pos px : Pos} (hl : (apos.endLine == pos.line) = true) :
    eval (.Call (.Attribute o name apos) [.Name x px] [] pos) env = (do
      let ov ← attributeBase o name env (eval o env)
      standAt apos.atName
      let (f, first) ← holding [ov] (getMethod ov name (do return (← importBound o env).getD true))
      callWith pos f first (backTo pos (starEach [.Name x px] env)) []) := by
  show (do
      let ov ← attributeBase o name env (eval o env)
      standAt apos.atName
      methodCall o name apos pos env ov 1 (backTo pos (starEach [.Name x px] env)) []) = _
  have e : methodCallForm 1 (backTo pos (starEach [.Name x px] env)) [] = true := rfl
  unfold methodCall methodCallPos calleeOf
  simp only [e, hl, Bool.not_true, Bool.or_true, if_true, pure_bind]
theorem one_size (v : Value) : [v].length ≤ sizeLine := by
  rw [sizeLine_eq]
  exact (by decide : 1 ≤ 16777216)
section
variable {prog : Program} {w : World} {A : Around} {E : Value → Shared → Prop} {h : Heap} {g : Array GenState} {d : Drawn} {t : Nat} {os : OsState}
variable {nm q : Str} {C N : Addr} {bs bm : List Value} {hdct : Bool} {sn : List Str} {sub : List Value} {ab : Bool} {col : Option Bool} {dd : Option Addr} {k0 k1 k2 k3 k5 : Option Value}
theorem call_bw {u e t0 : Addr} {rest : List Value} {Q : Value → Shared → Prop}
    (hC : h.get? C = some (excClassObj nm q C N bs bm hdct sn sub ab col dd k0 k1 k2 k3 k5 "ValueError.__new__")) (he : h.get? e = some (HandSPX.excO C t0)) (hu : h.get? u = some (kxs_mw "ValueError.__init__" e)) (hrest : rest.length ≤ sizeLine)
    (hq : ∀ h' t1, (∀ b o, b ≠ e → h.get? b = some o → h'.get? b = some o) → h'.get? e = some (HandSPX.excO C t1) → Q .none ⟨h', g, d, t, os⟩) :
    wpAny (model prog w) A (call (.ref u) rest) Q E ⟨h, g, d, t, os⟩ := by
  refine wpAny_call (codeAny_of_tree ?_)
  show wpAny _ A.in1 (callAny (.ref u) ⟨rest, []⟩) _ _ _
  simp only [callAny]
  refine wpAny_bind (wpAny_load hu ?_)
  simp only [kxs_mw, show (Value.type "method-wrapper" == Value.type "method" || Value.type "method-wrapper" == Value.type "builtin_function_or_method" || Value.type "method-wrapper" == Value.type "method-wrapper") = true by decide, if_true]
  refine W.KFB.if_so (by decide) ?_
  refine wpAny_bind (ESX.check_bound F.excBase_ValueError hC he rfl ?_)
  refine wpAny_bind (wpAny_pure (wpAny_pure ?_))
  refine ⟨Code.quiet_builtin _ (by decide +kernel), codeAny_builtin F.excBase_ValueError.initEntry ?_⟩
  rw [Around.under_plainId F.excBase_ValueError.init.plain _]
  wp_walk
  refine hq _ h.objs.size (fun b o hb ho => ?_) ?_
  · rw [Heap.get?_update_other _ _ (Ne.symm hb)]
    exact Heap.get?_push_of_some _ ho
  · rw [Heap.get?_update_self _ (Heap.get?_push_of_some _ he) rfl]
    rfl
end
section
variable {prog : Program} {w : World} {A : Around} {E : Value → Shared → Prop} {R : Result → Shared → Prop} {s : Shared} {K : Frag} {mg mb : Str → Option Value} {x : Str} {C fI : Addr}
theorem xs_init_name (T : XsTxt prog K mg x "name" C fI) {a t0 : Addr} {v : Value} (X : K.In s.heap) (G : s.heap.Ns mainGlobals mg) (B : s.heap.Ns builtinsNs mb) (hB : mb "super" = some (.type "super")) (hlim : s.heap.NoLimit) (ha : s.heap.get? a = some (excO C t0)) (hna : K.lookup a = none) (hroom : A.depth < recursionLimit)
    (hq : ∀ h' tk dx t1, InitEnd s.heap h' a C dx t1 "name" v → R (.ok (.ret .none)) { s with heap := h', toks := tk }) :
    codeAny (model prog w) A (.call (.ref fI) ⟨[.ref a, v], []⟩) R s := by
  obtain ⟨qual, oc, od, doc, pm, an, cda, cc, ct, osl, p1, p2, q0, q1, q2, q3, q4, q5, q6, q7, q8, q9, ccl, cdd, vs, ccs, file, tf, cl, cld, csl, ho, hcd, hcda, hvs, hfile, hcc, hln⟩ := T.fn
  obtain ⟨nm, q, N, bs, bm, sn, sub, ab, col, dd, k0, k1, k2, k3, k5, hC, hbm⟩ := T.cls
  have hcl : clsIn K C = some { name := nm, bases := bs, mro := .ref C :: bm, ns := N, qualname := q, hasDict := true, slotNames := sn, subclasses := sub, abstract := ab, collection := col, hasDel := false } := by unfold clsIn; rw [hC] <;> rfl
  have hns : mg "super" = none := mg_none_of X G T.sg
  refine ks_codeAny_call_defAt (fd := ksFn "__init__" qual (iA "name" p1 p2) (iB "name" q0 q1 q2 q3 q4 q5 q6 q7 q8 q9) (iS "name") .none .none doc pm an (.ref cda) ct cc) (body := iB "name" q0 q1 q2 q3 q4 q5 q6 q7 q8 q9)
    (binds := [("self", .ref a), ("name", v)]) hroom (X _ _ ho) rfl hlim (codeRec_of X hcd) rfl (BindsTo.of_eq (by first | rfl | with_unfolding_all rfl)) ?_ ?_ (fun h₁ hns₁ k₁ => ?_) rfl rfl rfl
  · intro y hy e
    have hy' : y ∈ [(PySem.Str.ofString "self", NameKind.local), ("name", .local), (PySem.Str.ofString "__class__", .free), (PySem.Str.ofString "super", .globalImplicit)] := hy
    simp only [List.mem_cons, List.not_mem_nil, or_false] at hy'
    rcases hy' with rfl | rfl | rfl | rfl <;> cases e
  · intro y hy
    rcases List.mem_cons.mp hy with rfl | hy
    · exact T.nm.l1
    · rcases List.mem_singleton.mp hy with rfl
      exact T.nm.l2
  have X₁ : K.In h₁ := X.keeps k₁
  have ha₁ := k₁ _ _ ha
  have hfl : ([("self", Value.ref a), ("name", v)] : List (Str × Value)).reverse.lookup ("name" : Str) = some v := by
    show ([("name", v), ("self", Value.ref a)] : List (Str × Value)).lookup ("name" : Str) = some v
    simp [List.lookup]
  have hsl : ([("self", Value.ref a), ("name", v)] : List (Str × Value)).reverse.lookup ("self" : Str) = some (.ref a) := by
    show ([("name", v), ("self", Value.ref a)] : List (Str × Value)).lookup ("self" : Str) = some (.ref a)
    have e : (("self" : Str) == ("name" : Str)) = false := by simpa using T.nm.ne
    simp [List.lookup, e]
  have I₁ : InstAt h₁ a (excO C t0) C none := ⟨ha₁, rfl, rfl, trivial⟩
  refine ks_wpAt_execs_cons (ks_wpAt_Expr_any (ks_wpAt_MethodCall ?_ (mc_eq hln)))
  refine ks_wpAt_super_base T.nm.l4 T.nm.l3 (by decide) rfl (X₁ _ _ ho) rfl rfl rfl (X₁ _ _ hcda) rfl hvs hfile T.top ?_
  refine ks_loadName_global rfl T.nm.l4 (loadGlobal_builtin (G.keeps k₁) hns (B.keeps k₁) hB ⟨rfl, ?_⟩)
  refine wpAny_loadName_free rfl T.nm.l3 (by rfl) ⟨_, X₁ _ _ hcc, rfl⟩ ?_
  refine wpAny_loadName_local rfl T.nm.l1 hns₁ hsl ?_
  refine ks_wpAny_isType_cls (X₁ _ _ hC) rfl ⟨rfl, ?_⟩
  refine ks_wpAny_call_super (X₁ _ _ hC) rfl I₁.at_ I₁.cls (fun c e => by cases e) (looks_mroIn X₁ T.mC) (fun h₂ e₂ k₂ => ?_)
  have X₂ : K.In h₂ := X₁.keeps k₂
  have ha₂ := k₂ _ _ ha₁
  have I₂ : InstAt h₂ a (excO C t0) C none := ⟨ha₂, rfl, rfl, trivial⟩
  have hf : alongIn K "__init__" (((Value.ref C :: bm).dropWhile (· != .ref C)).drop 1) = some (some (.builtin "ValueError.__init__")) := by
    have z := T.sup
    unfold ks_superIn at z
    rw [hcl] at z
    exact z
  have naC : a ≠ C := fun z => by rw [z, hC] at hna; cases hna
  refine kxs_getMethod kxs_ValueError e₂ (looks_opaque X₂ T.tp) (l₀ := .ref C :: bm) (fun A Q E s k q => wpAny_bind ((looks_clsIn X₂ hcl) A _ E s k (wpAny_pure q))) rfl X₂ hf (I₂.type.andThen (looks_subIn X₂ T.vC)) naC (by decide) ?_
  have k₃ : ∀ b o, h₂.get? b = some o → (h₂.push (kxs_mw "ValueError.__init__" a)).get? b = some o := fun b o e => Heap.get?_push_of_some _ e
  refine kxs_callWith (i := "ValueError.__init__") (x := a) rfl (evalArgs_plain ?_)
  have hns₂ : ((h₂.push (kxs_mw "ValueError.__init__" a)).Ns s.heap.objs.size fun x => ([("self", Value.ref a), ("name", v)] : List (Str × Value)).reverse.lookup x) := by
    obtain ⟨oL, es, ep, hL, r⟩ := hns₁
    exact ⟨oL, es, ep, k₃ _ _ (k₂ _ _ hL), r⟩
  refine Calls.spliced_cons (ESX.ldL (m := fun x => ([("self", Value.ref a), ("name", v)] : List (Str × Value)).reverse.lookup x) hns₂ hfl ?_ rfl T.nm.l2 T.nm.nd)
  refine Calls.spliced_nil ?_
  refine ⟨Heap.get?_push_size _ rfl, ?_⟩
  refine call_bw (k₃ _ _ (X₂ _ _ hC)) (k₃ _ _ ha₂) (Heap.get?_push_size _ rfl) (one_size v) (fun h₄ t1 k₄ ha₄ => ?_)
  have kall : ∀ b o, b ≠ a → s.heap.get? b = some o → h₄.get? b = some o := fun b o hb e => k₄ b o hb (k₃ _ _ (k₂ _ _ (k₁ _ _ e)))
  have X₄ : K.In h₄ := fun b o e => kall b o (fun z => by rw [z, hna] at e; cases e) (X b o e)
  have hL : s.heap.objs.size ≠ a := Nat.ne_of_gt (Heap.lt_size ha)
  have hns₄ : h₄.Ns s.heap.objs.size fun x => ([("self", Value.ref a), ("name", v)] : List (Str × Value)).reverse.lookup x := by
    obtain ⟨oL, es, ep, hL', r⟩ := hns₂
    exact ⟨oL, es, ep, k₄ _ _ hL hL', r⟩
  refine ks_wpAt_execs_cons (wpAt_of_wpAny (plainObj_wpAny_Assign_Attribute ?_))
  refine ESX.ldL (m := fun x => ([("self", Value.ref a), ("name", v)] : List (Str × Value)).reverse.lookup x) hns₄ hfl ?_ rfl T.nm.l2 T.nm.nd
  refine ESX.ldL (m := fun x => ([("self", Value.ref a), ("name", v)] : List (Str × Value)).reverse.lookup x) hns₄ hsl ?_ rfl T.nm.l1 (by decide)
  refine set_plain X₄ (ox := excO C t1) (od := none) ⟨ha₄, rfl, rfl, trivial⟩ T.sa ?_
  refine exc_osa X₄ ha₄ hcl (show refsVE (.ref C :: bm) = true from hbm) rfl T.noF (fun h₅ tk₅ dx k₅ dn dne hx₅ hn₅ => ?_)
  refine wpAt_of_wpAny (wpAny_execs_nil ?_)
  have zL : s.heap.objs.size < h₄.objs.size := hns₄.lt
  exact hq h₅ tk₅ dx t1 ⟨fun b o hb e => k₅ b o hb (kall b o hb e), hx₅, Nat.le_of_lt (Nat.lt_of_lt_of_le zL dn), dne, hn₅⟩
theorem xs_made_name (T : XsTxt prog K mg x "name" C fI) {v : Value} (X : K.In s.heap) (G : s.heap.Ns mainGlobals mg) (B : s.heap.Ns builtinsNs mb) (hB : mb "super" = some (.type "super")) (hlim : s.heap.NoLimit) (hroom : A.depth + 1 < recursionLimit)
    (hq : ∀ h' tk e d, OwnMade s.heap h' e C d "name" v → R (.ok (.ret (.ref e))) { s with heap := h', toks := tk }) :
    codeAny (model prog w) A (.call (.ref C) ⟨[v], []⟩) R s := by
  obtain ⟨nm, q, N, bs, bm, sn, sub, ab, col, dd, k0, k1, k2, k3, k5, hC, hbm⟩ := T.cls
  obtain ⟨hp, g, dr, tk, os⟩ := s
  have k : ∀ b o, hp.get? b = some o → ((hp.push (kdv_tup [v])).push (excO C hp.objs.size)).get? b = some o := fun b o e => Heap.get?_push_of_some _ (Heap.get?_push_of_some _ e)
  have hget : ((hp.push (kdv_tup [v])).push (excO C hp.objs.size)).get? (hp.objs.size + 1) = some (excO C hp.objs.size) := by heap_get
  have hnx : K.lookup (hp.objs.size + 1) = none := by
    cases e : K.lookup (hp.objs.size + 1) with
    | none => rfl
    | some o =>
      have z : hp.get? (hp.objs.size + 1) = some o := X _ _ e
      exact absurd (Nat.lt_of_succ_lt (Heap.lt_size z)) (Nat.lt_irrefl _)
  refine call_own F.excBase_ValueError (fun X => refsVE_contains X bm hbm) (X _ _ hC) (looks_findIn X T.iC) (fun self => bind_fn X self T.tC) (one_size v) ?_
  refine xs_init_name (s := ⟨(hp.push (kdv_tup [v])).push (excO C hp.objs.size), g, dr, tk, os⟩) T (X.keeps k) (G.keeps k) (B.keeps k) hB (hlim.keeps k) hget hnx ?_ fun h' tk' dx t1 ⟨k', hx, dn, dne, hns⟩ => ?_
  · show A.depth + 1 < recursionLimit
    exact hroom
  · have old : ∀ b o, hp.get? b = some o → h'.get? b = some o := fun b o e => k' b o (Nat.ne_of_lt (Nat.lt_succ_of_lt (Heap.lt_size e))) (k b o e)
    have z : hp.objs.size + 1 + 1 ≤ dx := by
      first
        | (simpa only [Heap.size_push] using dn)
        | exact dn
        | (have q := dn; rw [Heap.size_push, Heap.size_push] at q; exact q)
    exact ⟨rfl, hq h' tk' (hp.objs.size + 1) dx ⟨old, Nat.le_succ _, ⟨_, _, hx, rfl, rfl, rfl, rfl, rfl, by simp⟩, Nat.le_trans (Nat.le_trans (Nat.le_succ _) (Nat.le_succ _)) z, dne, hns⟩⟩
theorem xs_init_word (T : XsTxt prog K mg x "word" C fI) {a t0 : Addr} {v : Value} (X : K.In s.heap) (G : s.heap.Ns mainGlobals mg) (B : s.heap.Ns builtinsNs mb) (hB : mb "super" = some (.type "super")) (hlim : s.heap.NoLimit) (ha : s.heap.get? a = some (excO C t0)) (hna : K.lookup a = none) (hroom : A.depth < recursionLimit)
    (hq : ∀ h' tk dx t1, InitEnd s.heap h' a C dx t1 "word" v → R (.ok (.ret .none)) { s with heap := h', toks := tk }) :
    codeAny (model prog w) A (.call (.ref fI) ⟨[.ref a, v], []⟩) R s := by
  obtain ⟨qual, oc, od, doc, pm, an, cda, cc, ct, osl, p1, p2, q0, q1, q2, q3, q4, q5, q6, q7, q8, q9, ccl, cdd, vs, ccs, file, tf, cl, cld, csl, ho, hcd, hcda, hvs, hfile, hcc, hln⟩ := T.fn
  obtain ⟨nm, q, N, bs, bm, sn, sub, ab, col, dd, k0, k1, k2, k3, k5, hC, hbm⟩ := T.cls
  have hcl : clsIn K C = some { name := nm, bases := bs, mro := .ref C :: bm, ns := N, qualname := q, hasDict := true, slotNames := sn, subclasses := sub, abstract := ab, collection := col, hasDel := false } := by unfold clsIn; rw [hC] <;> rfl
  have hns : mg "super" = none := mg_none_of X G T.sg
  refine ks_codeAny_call_defAt (fd := ksFn "__init__" qual (iA "word" p1 p2) (iB "word" q0 q1 q2 q3 q4 q5 q6 q7 q8 q9) (iS "word") .none .none doc pm an (.ref cda) ct cc) (body := iB "word" q0 q1 q2 q3 q4 q5 q6 q7 q8 q9)
    (binds := [("self", .ref a), ("word", v)]) hroom (X _ _ ho) rfl hlim (codeRec_of X hcd) rfl (BindsTo.of_eq (by first | rfl | with_unfolding_all rfl)) ?_ ?_ (fun h₁ hns₁ k₁ => ?_) rfl rfl rfl
  · intro y hy e
    have hy' : y ∈ [(PySem.Str.ofString "self", NameKind.local), ("word", .local), (PySem.Str.ofString "__class__", .free), (PySem.Str.ofString "super", .globalImplicit)] := hy
    simp only [List.mem_cons, List.not_mem_nil, or_false] at hy'
    rcases hy' with rfl | rfl | rfl | rfl <;> cases e
  · intro y hy
    rcases List.mem_cons.mp hy with rfl | hy
    · exact T.nm.l1
    · rcases List.mem_singleton.mp hy with rfl
      exact T.nm.l2
  have X₁ : K.In h₁ := X.keeps k₁
  have ha₁ := k₁ _ _ ha
  have hfl : ([("self", Value.ref a), ("word", v)] : List (Str × Value)).reverse.lookup ("word" : Str) = some v := by
    show ([("word", v), ("self", Value.ref a)] : List (Str × Value)).lookup ("word" : Str) = some v
    simp [List.lookup]
  have hsl : ([("self", Value.ref a), ("word", v)] : List (Str × Value)).reverse.lookup ("self" : Str) = some (.ref a) := by
    show ([("word", v), ("self", Value.ref a)] : List (Str × Value)).lookup ("self" : Str) = some (.ref a)
    have e : (("self" : Str) == ("word" : Str)) = false := by simpa using T.nm.ne
    simp [List.lookup, e]
  have I₁ : InstAt h₁ a (excO C t0) C none := ⟨ha₁, rfl, rfl, trivial⟩
  refine ks_wpAt_execs_cons (ks_wpAt_Expr_any (ks_wpAt_MethodCall ?_ (mc_eq hln)))
  refine ks_wpAt_super_base T.nm.l4 T.nm.l3 (by decide) rfl (X₁ _ _ ho) rfl rfl rfl (X₁ _ _ hcda) rfl hvs hfile T.top ?_
  refine ks_loadName_global rfl T.nm.l4 (loadGlobal_builtin (G.keeps k₁) hns (B.keeps k₁) hB ⟨rfl, ?_⟩)
  refine wpAny_loadName_free rfl T.nm.l3 (by rfl) ⟨_, X₁ _ _ hcc, rfl⟩ ?_
  refine wpAny_loadName_local rfl T.nm.l1 hns₁ hsl ?_
  refine ks_wpAny_isType_cls (X₁ _ _ hC) rfl ⟨rfl, ?_⟩
  refine ks_wpAny_call_super (X₁ _ _ hC) rfl I₁.at_ I₁.cls (fun c e => by cases e) (looks_mroIn X₁ T.mC) (fun h₂ e₂ k₂ => ?_)
  have X₂ : K.In h₂ := X₁.keeps k₂
  have ha₂ := k₂ _ _ ha₁
  have I₂ : InstAt h₂ a (excO C t0) C none := ⟨ha₂, rfl, rfl, trivial⟩
  have hf : alongIn K "__init__" (((Value.ref C :: bm).dropWhile (· != .ref C)).drop 1) = some (some (.builtin "ValueError.__init__")) := by
    have z := T.sup
    unfold ks_superIn at z
    rw [hcl] at z
    exact z
  have naC : a ≠ C := fun z => by rw [z, hC] at hna; cases hna
  refine kxs_getMethod kxs_ValueError e₂ (looks_opaque X₂ T.tp) (l₀ := .ref C :: bm) (fun A Q E s k q => wpAny_bind ((looks_clsIn X₂ hcl) A _ E s k (wpAny_pure q))) rfl X₂ hf (I₂.type.andThen (looks_subIn X₂ T.vC)) naC (by decide) ?_
  have k₃ : ∀ b o, h₂.get? b = some o → (h₂.push (kxs_mw "ValueError.__init__" a)).get? b = some o := fun b o e => Heap.get?_push_of_some _ e
  refine kxs_callWith (i := "ValueError.__init__") (x := a) rfl (evalArgs_plain ?_)
  have hns₂ : ((h₂.push (kxs_mw "ValueError.__init__" a)).Ns s.heap.objs.size fun x => ([("self", Value.ref a), ("word", v)] : List (Str × Value)).reverse.lookup x) := by
    obtain ⟨oL, es, ep, hL, r⟩ := hns₁
    exact ⟨oL, es, ep, k₃ _ _ (k₂ _ _ hL), r⟩
  refine Calls.spliced_cons (ESX.ldL (m := fun x => ([("self", Value.ref a), ("word", v)] : List (Str × Value)).reverse.lookup x) hns₂ hfl ?_ rfl T.nm.l2 T.nm.nd)
  refine Calls.spliced_nil ?_
  refine ⟨Heap.get?_push_size _ rfl, ?_⟩
  refine call_bw (k₃ _ _ (X₂ _ _ hC)) (k₃ _ _ ha₂) (Heap.get?_push_size _ rfl) (one_size v) (fun h₄ t1 k₄ ha₄ => ?_)
  have kall : ∀ b o, b ≠ a → s.heap.get? b = some o → h₄.get? b = some o := fun b o hb e => k₄ b o hb (k₃ _ _ (k₂ _ _ (k₁ _ _ e)))
  have X₄ : K.In h₄ := fun b o e => kall b o (fun z => by rw [z, hna] at e; cases e) (X b o e)
  have hL : s.heap.objs.size ≠ a := Nat.ne_of_gt (Heap.lt_size ha)
  have hns₄ : h₄.Ns s.heap.objs.size fun x => ([("self", Value.ref a), ("word", v)] : List (Str × Value)).reverse.lookup x := by
    obtain ⟨oL, es, ep, hL', r⟩ := hns₂
    exact ⟨oL, es, ep, k₄ _ _ hL hL', r⟩
  refine ks_wpAt_execs_cons (wpAt_of_wpAny (plainObj_wpAny_Assign_Attribute ?_))
  refine ESX.ldL (m := fun x => ([("self", Value.ref a), ("word", v)] : List (Str × Value)).reverse.lookup x) hns₄ hfl ?_ rfl T.nm.l2 T.nm.nd
  refine ESX.ldL (m := fun x => ([("self", Value.ref a), ("word", v)] : List (Str × Value)).reverse.lookup x) hns₄ hsl ?_ rfl T.nm.l1 (by decide)
  refine set_plain X₄ (ox := excO C t1) (od := none) ⟨ha₄, rfl, rfl, trivial⟩ T.sa ?_
  refine exc_osa X₄ ha₄ hcl (show refsVE (.ref C :: bm) = true from hbm) rfl T.noF (fun h₅ tk₅ dx k₅ dn dne hx₅ hn₅ => ?_)
  refine wpAt_of_wpAny (wpAny_execs_nil ?_)
  have zL : s.heap.objs.size < h₄.objs.size := hns₄.lt
  exact hq h₅ tk₅ dx t1 ⟨fun b o hb e => k₅ b o hb (kall b o hb e), hx₅, Nat.le_of_lt (Nat.lt_of_lt_of_le zL dn), dne, hn₅⟩
theorem xs_made_word (T : XsTxt prog K mg x "word" C fI) {v : Value} (X : K.In s.heap) (G : s.heap.Ns mainGlobals mg) (B : s.heap.Ns builtinsNs mb) (hB : mb "super" = some (.type "super")) (hlim : s.heap.NoLimit) (hroom : A.depth + 1 < recursionLimit)
    (hq : ∀ h' tk e d, OwnMade s.heap h' e C d "word" v → R (.ok (.ret (.ref e))) { s with heap := h', toks := tk }) :
    codeAny (model prog w) A (.call (.ref C) ⟨[v], []⟩) R s := by
  obtain ⟨nm, q, N, bs, bm, sn, sub, ab, col, dd, k0, k1, k2, k3, k5, hC, hbm⟩ := T.cls
  obtain ⟨hp, g, dr, tk, os⟩ := s
  have k : ∀ b o, hp.get? b = some o → ((hp.push (kdv_tup [v])).push (excO C hp.objs.size)).get? b = some o := fun b o e => Heap.get?_push_of_some _ (Heap.get?_push_of_some _ e)
  have hget : ((hp.push (kdv_tup [v])).push (excO C hp.objs.size)).get? (hp.objs.size + 1) = some (excO C hp.objs.size) := by heap_get
  have hnx : K.lookup (hp.objs.size + 1) = none := by
    cases e : K.lookup (hp.objs.size + 1) with
    | none => rfl
    | some o =>
      have z : hp.get? (hp.objs.size + 1) = some o := X _ _ e
      exact absurd (Nat.lt_of_succ_lt (Heap.lt_size z)) (Nat.lt_irrefl _)
  refine call_own F.excBase_ValueError (fun X => refsVE_contains X bm hbm) (X _ _ hC) (looks_findIn X T.iC) (fun self => bind_fn X self T.tC) (one_size v) ?_
  refine xs_init_word (s := ⟨(hp.push (kdv_tup [v])).push (excO C hp.objs.size), g, dr, tk, os⟩) T (X.keeps k) (G.keeps k) (B.keeps k) hB (hlim.keeps k) hget hnx ?_ fun h' tk' dx t1 ⟨k', hx, dn, dne, hns⟩ => ?_
  · show A.depth + 1 < recursionLimit
    exact hroom
  · have old : ∀ b o, hp.get? b = some o → h'.get? b = some o := fun b o e => k' b o (Nat.ne_of_lt (Nat.lt_succ_of_lt (Heap.lt_size e))) (k b o e)
    have z : hp.objs.size + 1 + 1 ≤ dx := by
      first
        | (simpa only [Heap.size_push] using dn)
        | exact dn
        | (have q := dn; rw [Heap.size_push, Heap.size_push] at q; exact q)
    exact ⟨rfl, hq h' tk' (hp.objs.size + 1) dx ⟨old, Nat.le_succ _, ⟨_, _, hx, rfl, rfl, rfl, rfl, rfl, by simp⟩, Nat.le_trans (Nat.le_trans (Nat.le_succ _) (Nat.le_succ _)) z, dne, hns⟩⟩
theorem xs_init_place (T : XsTxt prog K mg x "place" C fI) {a t0 : Addr} {v : Value} (X : K.In s.heap) (G : s.heap.Ns mainGlobals mg) (B : s.heap.Ns builtinsNs mb) (hB : mb "super" = some (.type "super")) (hlim : s.heap.NoLimit) (ha : s.heap.get? a = some (excO C t0)) (hna : K.lookup a = none) (hroom : A.depth < recursionLimit)
    (hq : ∀ h' tk dx t1, InitEnd s.heap h' a C dx t1 "place" v → R (.ok (.ret .none)) { s with heap := h', toks := tk }) :
    codeAny (model prog w) A (.call (.ref fI) ⟨[.ref a, v], []⟩) R s := by
  obtain ⟨qual, oc, od, doc, pm, an, cda, cc, ct, osl, p1, p2, q0, q1, q2, q3, q4, q5, q6, q7, q8, q9, ccl, cdd, vs, ccs, file, tf, cl, cld, csl, ho, hcd, hcda, hvs, hfile, hcc, hln⟩ := T.fn
  obtain ⟨nm, q, N, bs, bm, sn, sub, ab, col, dd, k0, k1, k2, k3, k5, hC, hbm⟩ := T.cls
  have hcl : clsIn K C = some { name := nm, bases := bs, mro := .ref C :: bm, ns := N, qualname := q, hasDict := true, slotNames := sn, subclasses := sub, abstract := ab, collection := col, hasDel := false } := by unfold clsIn; rw [hC] <;> rfl
  have hns : mg "super" = none := mg_none_of X G T.sg
  refine ks_codeAny_call_defAt (fd := ksFn "__init__" qual (iA "place" p1 p2) (iB "place" q0 q1 q2 q3 q4 q5 q6 q7 q8 q9) (iS "place") .none .none doc pm an (.ref cda) ct cc) (body := iB "place" q0 q1 q2 q3 q4 q5 q6 q7 q8 q9)
    (binds := [("self", .ref a), ("place", v)]) hroom (X _ _ ho) rfl hlim (codeRec_of X hcd) rfl (BindsTo.of_eq (by first | rfl | with_unfolding_all rfl)) ?_ ?_ (fun h₁ hns₁ k₁ => ?_) rfl rfl rfl
  · intro y hy e
    have hy' : y ∈ [(PySem.Str.ofString "self", NameKind.local), ("place", .local), (PySem.Str.ofString "__class__", .free), (PySem.Str.ofString "super", .globalImplicit)] := hy
    simp only [List.mem_cons, List.not_mem_nil, or_false] at hy'
    rcases hy' with rfl | rfl | rfl | rfl <;> cases e
  · intro y hy
    rcases List.mem_cons.mp hy with rfl | hy
    · exact T.nm.l1
    · rcases List.mem_singleton.mp hy with rfl
      exact T.nm.l2
  have X₁ : K.In h₁ := X.keeps k₁
  have ha₁ := k₁ _ _ ha
  have hfl : ([("self", Value.ref a), ("place", v)] : List (Str × Value)).reverse.lookup ("place" : Str) = some v := by
    show ([("place", v), ("self", Value.ref a)] : List (Str × Value)).lookup ("place" : Str) = some v
    simp [List.lookup]
  have hsl : ([("self", Value.ref a), ("place", v)] : List (Str × Value)).reverse.lookup ("self" : Str) = some (.ref a) := by
    show ([("place", v), ("self", Value.ref a)] : List (Str × Value)).lookup ("self" : Str) = some (.ref a)
    have e : (("self" : Str) == ("place" : Str)) = false := by simpa using T.nm.ne
    simp [List.lookup, e]
  have I₁ : InstAt h₁ a (excO C t0) C none := ⟨ha₁, rfl, rfl, trivial⟩
  refine ks_wpAt_execs_cons (ks_wpAt_Expr_any (ks_wpAt_MethodCall ?_ (mc_eq hln)))
  refine ks_wpAt_super_base T.nm.l4 T.nm.l3 (by decide) rfl (X₁ _ _ ho) rfl rfl rfl (X₁ _ _ hcda) rfl hvs hfile T.top ?_
  refine ks_loadName_global rfl T.nm.l4 (loadGlobal_builtin (G.keeps k₁) hns (B.keeps k₁) hB ⟨rfl, ?_⟩)
  refine wpAny_loadName_free rfl T.nm.l3 (by rfl) ⟨_, X₁ _ _ hcc, rfl⟩ ?_
  refine wpAny_loadName_local rfl T.nm.l1 hns₁ hsl ?_
  refine ks_wpAny_isType_cls (X₁ _ _ hC) rfl ⟨rfl, ?_⟩
  refine ks_wpAny_call_super (X₁ _ _ hC) rfl I₁.at_ I₁.cls (fun c e => by cases e) (looks_mroIn X₁ T.mC) (fun h₂ e₂ k₂ => ?_)
  have X₂ : K.In h₂ := X₁.keeps k₂
  have ha₂ := k₂ _ _ ha₁
  have I₂ : InstAt h₂ a (excO C t0) C none := ⟨ha₂, rfl, rfl, trivial⟩
  have hf : alongIn K "__init__" (((Value.ref C :: bm).dropWhile (· != .ref C)).drop 1) = some (some (.builtin "ValueError.__init__")) := by
    have z := T.sup
    unfold ks_superIn at z
    rw [hcl] at z
    exact z
  have naC : a ≠ C := fun z => by rw [z, hC] at hna; cases hna
  refine kxs_getMethod kxs_ValueError e₂ (looks_opaque X₂ T.tp) (l₀ := .ref C :: bm) (fun A Q E s k q => wpAny_bind ((looks_clsIn X₂ hcl) A _ E s k (wpAny_pure q))) rfl X₂ hf (I₂.type.andThen (looks_subIn X₂ T.vC)) naC (by decide) ?_
  have k₃ : ∀ b o, h₂.get? b = some o → (h₂.push (kxs_mw "ValueError.__init__" a)).get? b = some o := fun b o e => Heap.get?_push_of_some _ e
  refine kxs_callWith (i := "ValueError.__init__") (x := a) rfl (evalArgs_plain ?_)
  have hns₂ : ((h₂.push (kxs_mw "ValueError.__init__" a)).Ns s.heap.objs.size fun x => ([("self", Value.ref a), ("place", v)] : List (Str × Value)).reverse.lookup x) := by
    obtain ⟨oL, es, ep, hL, r⟩ := hns₁
    exact ⟨oL, es, ep, k₃ _ _ (k₂ _ _ hL), r⟩
  refine Calls.spliced_cons (ESX.ldL (m := fun x => ([("self", Value.ref a), ("place", v)] : List (Str × Value)).reverse.lookup x) hns₂ hfl ?_ rfl T.nm.l2 T.nm.nd)
  refine Calls.spliced_nil ?_
  refine ⟨Heap.get?_push_size _ rfl, ?_⟩
  refine call_bw (k₃ _ _ (X₂ _ _ hC)) (k₃ _ _ ha₂) (Heap.get?_push_size _ rfl) (one_size v) (fun h₄ t1 k₄ ha₄ => ?_)
  have kall : ∀ b o, b ≠ a → s.heap.get? b = some o → h₄.get? b = some o := fun b o hb e => k₄ b o hb (k₃ _ _ (k₂ _ _ (k₁ _ _ e)))
  have X₄ : K.In h₄ := fun b o e => kall b o (fun z => by rw [z, hna] at e; cases e) (X b o e)
  have hL : s.heap.objs.size ≠ a := Nat.ne_of_gt (Heap.lt_size ha)
  have hns₄ : h₄.Ns s.heap.objs.size fun x => ([("self", Value.ref a), ("place", v)] : List (Str × Value)).reverse.lookup x := by
    obtain ⟨oL, es, ep, hL', r⟩ := hns₂
    exact ⟨oL, es, ep, k₄ _ _ hL hL', r⟩
  refine ks_wpAt_execs_cons (wpAt_of_wpAny (plainObj_wpAny_Assign_Attribute ?_))
  refine ESX.ldL (m := fun x => ([("self", Value.ref a), ("place", v)] : List (Str × Value)).reverse.lookup x) hns₄ hfl ?_ rfl T.nm.l2 T.nm.nd
  refine ESX.ldL (m := fun x => ([("self", Value.ref a), ("place", v)] : List (Str × Value)).reverse.lookup x) hns₄ hsl ?_ rfl T.nm.l1 (by decide)
  refine set_plain X₄ (ox := excO C t1) (od := none) ⟨ha₄, rfl, rfl, trivial⟩ T.sa ?_
  refine exc_osa X₄ ha₄ hcl (show refsVE (.ref C :: bm) = true from hbm) rfl T.noF (fun h₅ tk₅ dx k₅ dn dne hx₅ hn₅ => ?_)
  refine wpAt_of_wpAny (wpAny_execs_nil ?_)
  have zL : s.heap.objs.size < h₄.objs.size := hns₄.lt
  exact hq h₅ tk₅ dx t1 ⟨fun b o hb e => k₅ b o hb (kall b o hb e), hx₅, Nat.le_of_lt (Nat.lt_of_lt_of_le zL dn), dne, hn₅⟩
theorem xs_made_place (T : XsTxt prog K mg x "place" C fI) {v : Value} (X : K.In s.heap) (G : s.heap.Ns mainGlobals mg) (B : s.heap.Ns builtinsNs mb) (hB : mb "super" = some (.type "super")) (hlim : s.heap.NoLimit) (hroom : A.depth + 1 < recursionLimit)
    (hq : ∀ h' tk e d, OwnMade s.heap h' e C d "place" v → R (.ok (.ret (.ref e))) { s with heap := h', toks := tk }) :
    codeAny (model prog w) A (.call (.ref C) ⟨[v], []⟩) R s := by
  obtain ⟨nm, q, N, bs, bm, sn, sub, ab, col, dd, k0, k1, k2, k3, k5, hC, hbm⟩ := T.cls
  obtain ⟨hp, g, dr, tk, os⟩ := s
  have k : ∀ b o, hp.get? b = some o → ((hp.push (kdv_tup [v])).push (excO C hp.objs.size)).get? b = some o := fun b o e => Heap.get?_push_of_some _ (Heap.get?_push_of_some _ e)
  have hget : ((hp.push (kdv_tup [v])).push (excO C hp.objs.size)).get? (hp.objs.size + 1) = some (excO C hp.objs.size) := by heap_get
  have hnx : K.lookup (hp.objs.size + 1) = none := by
    cases e : K.lookup (hp.objs.size + 1) with
    | none => rfl
    | some o =>
      have z : hp.get? (hp.objs.size + 1) = some o := X _ _ e
      exact absurd (Nat.lt_of_succ_lt (Heap.lt_size z)) (Nat.lt_irrefl _)
  refine call_own F.excBase_ValueError (fun X => refsVE_contains X bm hbm) (X _ _ hC) (looks_findIn X T.iC) (fun self => bind_fn X self T.tC) (one_size v) ?_
  refine xs_init_place (s := ⟨(hp.push (kdv_tup [v])).push (excO C hp.objs.size), g, dr, tk, os⟩) T (X.keeps k) (G.keeps k) (B.keeps k) hB (hlim.keeps k) hget hnx ?_ fun h' tk' dx t1 ⟨k', hx, dn, dne, hns⟩ => ?_
  · show A.depth + 1 < recursionLimit
    exact hroom
  · have old : ∀ b o, hp.get? b = some o → h'.get? b = some o := fun b o e => k' b o (Nat.ne_of_lt (Nat.lt_succ_of_lt (Heap.lt_size e))) (k b o e)
    have z : hp.objs.size + 1 + 1 ≤ dx := by
      first
        | (simpa only [Heap.size_push] using dn)
        | exact dn
        | (have q := dn; rw [Heap.size_push, Heap.size_push] at q; exact q)
    exact ⟨rfl, hq h' tk' (hp.objs.size + 1) dx ⟨old, Nat.le_succ _, ⟨_, _, hx, rfl, rfl, rfl, rfl, rfl, by simp⟩, Nat.le_trans (Nat.le_trans (Nat.le_succ _) (Nat.le_succ _)) z, dne, hns⟩⟩
theorem xs_init_line (T : XsTxt prog K mg x "line" C fI) {a t0 : Addr} {v : Value} (X : K.In s.heap) (G : s.heap.Ns mainGlobals mg) (B : s.heap.Ns builtinsNs mb) (hB : mb "super" = some (.type "super")) (hlim : s.heap.NoLimit) (ha : s.heap.get? a = some (excO C t0)) (hna : K.lookup a = none) (hroom : A.depth < recursionLimit)
    (hq : ∀ h' tk dx t1, InitEnd s.heap h' a C dx t1 "line" v → R (.ok (.ret .none)) { s with heap := h', toks := tk }) :
    codeAny (model prog w) A (.call (.ref fI) ⟨[.ref a, v], []⟩) R s := by
  obtain ⟨qual, oc, od, doc, pm, an, cda, cc, ct, osl, p1, p2, q0, q1, q2, q3, q4, q5, q6, q7, q8, q9, ccl, cdd, vs, ccs, file, tf, cl, cld, csl, ho, hcd, hcda, hvs, hfile, hcc, hln⟩ := T.fn
  obtain ⟨nm, q, N, bs, bm, sn, sub, ab, col, dd, k0, k1, k2, k3, k5, hC, hbm⟩ := T.cls
  have hcl : clsIn K C = some { name := nm, bases := bs, mro := .ref C :: bm, ns := N, qualname := q, hasDict := true, slotNames := sn, subclasses := sub, abstract := ab, collection := col, hasDel := false } := by unfold clsIn; rw [hC] <;> rfl
  have hns : mg "super" = none := mg_none_of X G T.sg
  refine ks_codeAny_call_defAt (fd := ksFn "__init__" qual (iA "line" p1 p2) (iB "line" q0 q1 q2 q3 q4 q5 q6 q7 q8 q9) (iS "line") .none .none doc pm an (.ref cda) ct cc) (body := iB "line" q0 q1 q2 q3 q4 q5 q6 q7 q8 q9)
    (binds := [("self", .ref a), ("line", v)]) hroom (X _ _ ho) rfl hlim (codeRec_of X hcd) rfl (BindsTo.of_eq (by first | rfl | with_unfolding_all rfl)) ?_ ?_ (fun h₁ hns₁ k₁ => ?_) rfl rfl rfl
  · intro y hy e
    have hy' : y ∈ [(PySem.Str.ofString "self", NameKind.local), ("line", .local), (PySem.Str.ofString "__class__", .free), (PySem.Str.ofString "super", .globalImplicit)] := hy
    simp only [List.mem_cons, List.not_mem_nil, or_false] at hy'
    rcases hy' with rfl | rfl | rfl | rfl <;> cases e
  · intro y hy
    rcases List.mem_cons.mp hy with rfl | hy
    · exact T.nm.l1
    · rcases List.mem_singleton.mp hy with rfl
      exact T.nm.l2
  have X₁ : K.In h₁ := X.keeps k₁
  have ha₁ := k₁ _ _ ha
  have hfl : ([("self", Value.ref a), ("line", v)] : List (Str × Value)).reverse.lookup ("line" : Str) = some v := by
    show ([("line", v), ("self", Value.ref a)] : List (Str × Value)).lookup ("line" : Str) = some v
    simp [List.lookup]
  have hsl : ([("self", Value.ref a), ("line", v)] : List (Str × Value)).reverse.lookup ("self" : Str) = some (.ref a) := by
    show ([("line", v), ("self", Value.ref a)] : List (Str × Value)).lookup ("self" : Str) = some (.ref a)
    have e : (("self" : Str) == ("line" : Str)) = false := by simpa using T.nm.ne
    simp [List.lookup, e]
  have I₁ : InstAt h₁ a (excO C t0) C none := ⟨ha₁, rfl, rfl, trivial⟩
  refine ks_wpAt_execs_cons (ks_wpAt_Expr_any (ks_wpAt_MethodCall ?_ (mc_eq hln)))
  refine ks_wpAt_super_base T.nm.l4 T.nm.l3 (by decide) rfl (X₁ _ _ ho) rfl rfl rfl (X₁ _ _ hcda) rfl hvs hfile T.top ?_
  refine ks_loadName_global rfl T.nm.l4 (loadGlobal_builtin (G.keeps k₁) hns (B.keeps k₁) hB ⟨rfl, ?_⟩)
  refine wpAny_loadName_free rfl T.nm.l3 (by rfl) ⟨_, X₁ _ _ hcc, rfl⟩ ?_
  refine wpAny_loadName_local rfl T.nm.l1 hns₁ hsl ?_
  refine ks_wpAny_isType_cls (X₁ _ _ hC) rfl ⟨rfl, ?_⟩
  refine ks_wpAny_call_super (X₁ _ _ hC) rfl I₁.at_ I₁.cls (fun c e => by cases e) (looks_mroIn X₁ T.mC) (fun h₂ e₂ k₂ => ?_)
  have X₂ : K.In h₂ := X₁.keeps k₂
  have ha₂ := k₂ _ _ ha₁
  have I₂ : InstAt h₂ a (excO C t0) C none := ⟨ha₂, rfl, rfl, trivial⟩
  have hf : alongIn K "__init__" (((Value.ref C :: bm).dropWhile (· != .ref C)).drop 1) = some (some (.builtin "ValueError.__init__")) := by
    have z := T.sup
    unfold ks_superIn at z
    rw [hcl] at z
    exact z
  have naC : a ≠ C := fun z => by rw [z, hC] at hna; cases hna
  refine kxs_getMethod kxs_ValueError e₂ (looks_opaque X₂ T.tp) (l₀ := .ref C :: bm) (fun A Q E s k q => wpAny_bind ((looks_clsIn X₂ hcl) A _ E s k (wpAny_pure q))) rfl X₂ hf (I₂.type.andThen (looks_subIn X₂ T.vC)) naC (by decide) ?_
  have k₃ : ∀ b o, h₂.get? b = some o → (h₂.push (kxs_mw "ValueError.__init__" a)).get? b = some o := fun b o e => Heap.get?_push_of_some _ e
  refine kxs_callWith (i := "ValueError.__init__") (x := a) rfl (evalArgs_plain ?_)
  have hns₂ : ((h₂.push (kxs_mw "ValueError.__init__" a)).Ns s.heap.objs.size fun x => ([("self", Value.ref a), ("line", v)] : List (Str × Value)).reverse.lookup x) := by
    obtain ⟨oL, es, ep, hL, r⟩ := hns₁
    exact ⟨oL, es, ep, k₃ _ _ (k₂ _ _ hL), r⟩
  refine Calls.spliced_cons (ESX.ldL (m := fun x => ([("self", Value.ref a), ("line", v)] : List (Str × Value)).reverse.lookup x) hns₂ hfl ?_ rfl T.nm.l2 T.nm.nd)
  refine Calls.spliced_nil ?_
  refine ⟨Heap.get?_push_size _ rfl, ?_⟩
  refine call_bw (k₃ _ _ (X₂ _ _ hC)) (k₃ _ _ ha₂) (Heap.get?_push_size _ rfl) (one_size v) (fun h₄ t1 k₄ ha₄ => ?_)
  have kall : ∀ b o, b ≠ a → s.heap.get? b = some o → h₄.get? b = some o := fun b o hb e => k₄ b o hb (k₃ _ _ (k₂ _ _ (k₁ _ _ e)))
  have X₄ : K.In h₄ := fun b o e => kall b o (fun z => by rw [z, hna] at e; cases e) (X b o e)
  have hL : s.heap.objs.size ≠ a := Nat.ne_of_gt (Heap.lt_size ha)
  have hns₄ : h₄.Ns s.heap.objs.size fun x => ([("self", Value.ref a), ("line", v)] : List (Str × Value)).reverse.lookup x := by
    obtain ⟨oL, es, ep, hL', r⟩ := hns₂
    exact ⟨oL, es, ep, k₄ _ _ hL hL', r⟩
  refine ks_wpAt_execs_cons (wpAt_of_wpAny (plainObj_wpAny_Assign_Attribute ?_))
  refine ESX.ldL (m := fun x => ([("self", Value.ref a), ("line", v)] : List (Str × Value)).reverse.lookup x) hns₄ hfl ?_ rfl T.nm.l2 T.nm.nd
  refine ESX.ldL (m := fun x => ([("self", Value.ref a), ("line", v)] : List (Str × Value)).reverse.lookup x) hns₄ hsl ?_ rfl T.nm.l1 (by decide)
  refine set_plain X₄ (ox := excO C t1) (od := none) ⟨ha₄, rfl, rfl, trivial⟩ T.sa ?_
  refine exc_osa X₄ ha₄ hcl (show refsVE (.ref C :: bm) = true from hbm) rfl T.noF (fun h₅ tk₅ dx k₅ dn dne hx₅ hn₅ => ?_)
  refine wpAt_of_wpAny (wpAny_execs_nil ?_)
  have zL : s.heap.objs.size < h₄.objs.size := hns₄.lt
  exact hq h₅ tk₅ dx t1 ⟨fun b o hb e => k₅ b o hb (kall b o hb e), hx₅, Nat.le_of_lt (Nat.lt_of_lt_of_le zL dn), dne, hn₅⟩
theorem xs_made_line (T : XsTxt prog K mg x "line" C fI) {v : Value} (X : K.In s.heap) (G : s.heap.Ns mainGlobals mg) (B : s.heap.Ns builtinsNs mb) (hB : mb "super" = some (.type "super")) (hlim : s.heap.NoLimit) (hroom : A.depth + 1 < recursionLimit)
    (hq : ∀ h' tk e d, OwnMade s.heap h' e C d "line" v → R (.ok (.ret (.ref e))) { s with heap := h', toks := tk }) :
    codeAny (model prog w) A (.call (.ref C) ⟨[v], []⟩) R s := by
  obtain ⟨nm, q, N, bs, bm, sn, sub, ab, col, dd, k0, k1, k2, k3, k5, hC, hbm⟩ := T.cls
  obtain ⟨hp, g, dr, tk, os⟩ := s
  have k : ∀ b o, hp.get? b = some o → ((hp.push (kdv_tup [v])).push (excO C hp.objs.size)).get? b = some o := fun b o e => Heap.get?_push_of_some _ (Heap.get?_push_of_some _ e)
  have hget : ((hp.push (kdv_tup [v])).push (excO C hp.objs.size)).get? (hp.objs.size + 1) = some (excO C hp.objs.size) := by heap_get
  have hnx : K.lookup (hp.objs.size + 1) = none := by
    cases e : K.lookup (hp.objs.size + 1) with
    | none => rfl
    | some o =>
      have z : hp.get? (hp.objs.size + 1) = some o := X _ _ e
      exact absurd (Nat.lt_of_succ_lt (Heap.lt_size z)) (Nat.lt_irrefl _)
  refine call_own F.excBase_ValueError (fun X => refsVE_contains X bm hbm) (X _ _ hC) (looks_findIn X T.iC) (fun self => bind_fn X self T.tC) (one_size v) ?_
  refine xs_init_line (s := ⟨(hp.push (kdv_tup [v])).push (excO C hp.objs.size), g, dr, tk, os⟩) T (X.keeps k) (G.keeps k) (B.keeps k) hB (hlim.keeps k) hget hnx ?_ fun h' tk' dx t1 ⟨k', hx, dn, dne, hns⟩ => ?_
  · show A.depth + 1 < recursionLimit
    exact hroom
  · have old : ∀ b o, hp.get? b = some o → h'.get? b = some o := fun b o e => k' b o (Nat.ne_of_lt (Nat.lt_succ_of_lt (Heap.lt_size e))) (k b o e)
    have z : hp.objs.size + 1 + 1 ≤ dx := by
      first
        | (simpa only [Heap.size_push] using dn)
        | exact dn
        | (have q := dn; rw [Heap.size_push, Heap.size_push] at q; exact q)
    exact ⟨rfl, hq h' tk' (hp.objs.size + 1) dx ⟨old, Nat.le_succ _, ⟨_, _, hx, rfl, rfl, rfl, rfl, rfl, by simp⟩, Nat.le_trans (Nat.le_trans (Nat.le_succ _) (Nat.le_succ _)) z, dne, hns⟩⟩
end
end XsX
end PySem
end

section
namespace SH
open PySem PySem.Spec PyProof.Rows L2
/-- the class at C makes its errors: one value v, kept in the field f -/
structure XsOk (prog : Program) (w : World) (K : PySem.W.Frag) (mg : Str → Option Value) (x f : Str) (C : Addr) : Prop where
  made : ∀ (A : Around) (R : Result → Shared → Prop) (s : Shared) (mb : Str → Option Value) (v : Value), K.In s.heap → s.heap.Ns mainGlobals mg → s.heap.Ns builtinsNs mb → mb "super" = some (.type "super") → s.heap.NoLimit → A.depth + 1 < recursionLimit →
    (∀ h' tk e d, PySem.XsX.OwnMade s.heap h' e C d f v → R (.ok (.ret (.ref e))) { s with heap := h', toks := tk }) → codeAny (model prog w) A (.call (.ref C) ⟨[v], []⟩) R s
  gC : mg x = some (.ref C)
  kC : PySem.W.keepIn K (.ref C) = true
  exC : PySem.W.subIn K (.ref C) (.type "BaseException") = some true
  tyC : PySem.W.typeIn K (.ref C) = some (.type "type")
theorem relO_one {v : V} {v' : Value} {g : Str} (r : RelV v v') (f : Str) : RelO (List.lookup f [(g, v)]) (if f = g then some v' else none) := by
  by_cases hw : f = g
  · subst hw
    rw [if_pos rfl]
    have q : List.lookup f [(f, v)] = some v := by simp [List.lookup]
    rw [q]
    exact r
  · rw [if_neg hw]
    have qw : (f == g) = false := by simpa using hw
    have q2 : List.lookup f [(g, v)] = none := by simp [List.lookup, qw]
    rw [q2]
    trivial
/-- x(e) -/
def tXs (C : Addr) (f : Str) (ta : TA) : L2.St → Hp → XK → Prop := fun σ H Q => ta σ H fun vs H1 => ∃ v, vs = [v] ∧ ∀ d, H1 d = none → Q (.ref C) (some d) (upd H1 d (.xd [(f, v)]))
section
variable {X : Cx} {C : Addr} {x f : Str}
theorem pmk_xs {a : Expr} {ta : TA} {p pos : Pos} (T : XsOk X.prog X.w X.K X.mg x f C) (hr : Room 0 X.A) (ha : PA X [a] ta) (hg : Gl X x := by rfl) (hdb : (x == ("__debug__" : Str)) = false := by decide)
    (he : starEach (a :: []) X.env = (false, eval a X.env) :: starEach [] X.env := by rfl) (hpl : (backTo pos (starEach [] X.env)).any (·.1) = false := by rfl) :
    L2N.PMk X (.Call (.Name x p) [a] [] pos) (tXs C f ta) := by
  intro pins s σ H Q I h
  refine wpAny_Call_Name_kw (ld_glob I hg T.gC ?_ hdb)
  refine PySem.W.callWith_K (h₀ := X.base) I.ok.mod.kin T.kC (thn (ha.run pos pins s σ H _ I h) fun us s1 hh => ?_) he hpl
  obtain ⟨vs, H1, I1, r1, v, ev, q1⟩ := hh
  subst ev
  refine ⟨I1.kIn, ?_⟩
  cases r1 with
  | cons rv rn =>
    rename_i v' us'
    cases rn
    show wpAny _ _ (call (.ref C) [v']) _ _ _
    have hlim := I1.nolimit
    obtain ⟨mb, b1, b2⟩ := I1.mod.blt
    have hGl := I1.mod.glob.keeps I1.bk
    have hBl := b1.keeps I1.bk
    have hsu : mb "super" = some (.type "super") := (b2 "super" (by decide)).trans (by decide +kernel)
    obtain ⟨hp, g, dr, tk, os⟩ := s1
    refine wpAny_call (T.made X.A _ _ mb v' I1.kIn hGl hBl hsu hlim (by have := hr.dp; omega) fun h' tk' e d M => ?_)
    show L2N.MkP X pins σ Q (.ref e) ⟨h', g, dr, tk', os⟩
    obtain ⟨oe, fv, hoe, hc, hd, hdat, h1, h2, h5⟩ := M.obj
    have hns := M.ns
    obtain ⟨G', g1, g2⟩ := restrict h' fun b => decide (b ≠ e)
    have gk : ∀ b, b ≠ e → G'.get? b = h'.get? b := fun b hb => g1 b (decide_eq_true hb)
    have ge : G'.get? e = none := g2 e (by simp)
    have old : ∀ b o, hp.get? b = some o → G'.get? b = some o := fun b o q => (gk b (Nat.ne_of_lt (Nat.lt_of_lt_of_le (Heap.lt_size q) M.new))).trans (M.keep b o q)
    have ob : ObjOk X.prog X.w (upd H1 d (.xd [(f, v)])) G' d (.xd [(f, v)]) :=
      ⟨_, hns.at (fun o q => (gk d M.dne).trans q), fun g => relO_one rv g⟩
    have J : Inv X pins σ (upd H1 d (.xd [(f, v)])) ⟨G', g, dr, tk', os⟩ := I1.laid (t' := tk') old M.dbig ob
    refine ⟨e, oe, fv, ⟨G', g, dr, tk', os⟩, _, .ref C, some d, rfl, J, fun b o q => ?_, ge, hoe, ⟨hc, hd, fun vs e => by rw [hdat] at e; cases e; exact h2⟩, hdat, h1, ?_, rfl, I1.bare, raises_own T.exC T.tyC, q1 d (I1.hok.fresh M.dbig)⟩
    · by_cases hb : b = e
      · have q' : G'.get? b = some o := q
        rw [hb, ge] at q'; cases q'
      · exact (gk b hb).symm.trans q
    · rw [upd_ne (Ne.symm M.dne)]
      exact I1.hok.fresh M.new
/-- raise x(e) -/
def tRaiseXs (C : Addr) (f : Str) (W : WX) (ta : TA) : TS := fun _ σ H => tXs C f ta σ H fun cls d H' => W cls d σ H'
theorem ps_raiseXs {a : Expr} {ta : TA} {W : WX} {p pos pos2 : Pos} (hc : X.calm = true) (T : XsOk X.prog X.w X.K X.mg x f C) (hr : Room 0 X.A) (tk : L2N.Takes X W) (ha : PA X [a] ta) (hg : Gl X x := by rfl) (hdb : (x == ("__debug__" : Str)) = false := by decide)
    (he : starEach (a :: []) X.env = (false, eval a X.env) :: starEach [] X.env := by rfl) (hpl : (backTo pos (starEach [] X.env)).any (·.1) = false := by rfl) :
    PS X (.Raise (some (.Call (.Name x p) [a] [] pos)) none pos2) (tRaiseXs C f W ta) := L2N.ps_raise hc tk (pmk_xs T hr ha hg hdb he hpl)
end
section
variable {σ : L2.St} {H : Hp} {C : Addr} {f : Str} {W : WX} {ta : TA} {v : V} {N R Bk Ct}
theorem g_raise (q : ta σ H fun vs H1 => ∃ v, vs = [v] ∧ ∀ d, H1 d = none → W (.ref C) (some d) σ (upd H1 d (.xd [(f, v)]))) : tRaiseXs C f W ta ⟨N, R, Bk, Ct⟩ σ H := q
theorem g_rs {M : V → Prop} (q : M v) : ∃ v', [v] = [v'] ∧ M v' := ⟨v, rfl, q⟩
end
end SH
namespace SH
open PySem PySem.Spec PyProof.Rows L2
theorem nm_name : PySem.XsX.NmOk "name" := ⟨by decide +kernel, by decide +kernel, by decide +kernel, by decide +kernel, by decide +kernel, by decide +kernel⟩
theorem xsok_name {prog : Program} {w : World} {K : PySem.W.Frag} {mg : Str → Option Value} {x : Str} {C fI : Addr} (T : PySem.XsX.XsTxt prog K mg x "name" C fI) : XsOk prog w K mg x "name" C where
  made := fun A R s mb v X G B hB hl hr hq => PySem.XsX.xs_made_name T X G B hB hl hr hq
  gC := T.gC
  kC := T.kC
  exC := T.exC
  tyC := T.tyC
theorem nm_word : PySem.XsX.NmOk "word" := ⟨by decide +kernel, by decide +kernel, by decide +kernel, by decide +kernel, by decide +kernel, by decide +kernel⟩
theorem xsok_word {prog : Program} {w : World} {K : PySem.W.Frag} {mg : Str → Option Value} {x : Str} {C fI : Addr} (T : PySem.XsX.XsTxt prog K mg x "word" C fI) : XsOk prog w K mg x "word" C where
  made := fun A R s mb v X G B hB hl hr hq => PySem.XsX.xs_made_word T X G B hB hl hr hq
  gC := T.gC
  kC := T.kC
  exC := T.exC
  tyC := T.tyC
theorem nm_place : PySem.XsX.NmOk "place" := ⟨by decide +kernel, by decide +kernel, by decide +kernel, by decide +kernel, by decide +kernel, by decide +kernel⟩
theorem xsok_place {prog : Program} {w : World} {K : PySem.W.Frag} {mg : Str → Option Value} {x : Str} {C fI : Addr} (T : PySem.XsX.XsTxt prog K mg x "place" C fI) : XsOk prog w K mg x "place" C where
  made := fun A R s mb v X G B hB hl hr hq => PySem.XsX.xs_made_place T X G B hB hl hr hq
  gC := T.gC
  kC := T.kC
  exC := T.exC
  tyC := T.tyC
theorem nm_line : PySem.XsX.NmOk "line" := ⟨by decide +kernel, by decide +kernel, by decide +kernel, by decide +kernel, by decide +kernel, by decide +kernel⟩
theorem xsok_line {prog : Program} {w : World} {K : PySem.W.Frag} {mg : Str → Option Value} {x : Str} {C fI : Addr} (T : PySem.XsX.XsTxt prog K mg x "line" C fI) : XsOk prog w K mg x "line" C where
  made := fun A R s mb v X G B hB hl hr hq => PySem.XsX.xs_made_line T X G B hB hl hr hq
  gC := T.gC
  kC := T.kC
  exC := T.exC
  tyC := T.tyC
end SH
end

section
namespace SH
open PySem PySem.Spec PyProof.Rows L2
/-! #### try .. except .. whose suites raise an own error «from None» -/
section
variable {X : Cx} {C : Addr} {x f : Str}
theorem pmk_xs5 {a : Expr} {ta : TA} {p pos : Pos} (T : XsOk X.prog X.w X.K X.mg x f C) (hdp : X.A.depth + 1 < recursionLimit) (ha : PA X [a] ta) (hg : Gl X x := by rfl) (hdb : (x == ("__debug__" : Str)) = false := by decide)
    (he : starEach (a :: []) X.env = (false, eval a X.env) :: starEach [] X.env := by rfl) (hpl : (backTo pos (starEach [] X.env)).any (·.1) = false := by rfl) :
    L2H.PMk5 X (.Call (.Name x p) [a] [] pos) (tXs C f ta) := by
  intro pins s σ H Q I h
  refine wpAny_Call_Name_kw (ld_glob I hg T.gC ?_ hdb)
  refine PySem.W.callWith_K (h₀ := X.base) I.ok.mod.kin T.kC (thn (ha.run pos pins s σ H _ I h) fun us s1 hh => ?_) he hpl
  obtain ⟨vs, H1, I1, r1, v, ev, q1⟩ := hh
  subst ev
  refine ⟨I1.kIn, ?_⟩
  cases r1 with
  | cons rv rn =>
    rename_i v' us'
    cases rn
    show wpAny _ _ (call (.ref C) [v']) _ _ _
    have hlim := I1.nolimit
    obtain ⟨mb, b1, b2⟩ := I1.mod.blt
    have hGl := I1.mod.glob.keeps I1.bk
    have hBl := b1.keeps I1.bk
    have hsu : mb "super" = some (.type "super") := (b2 "super" (by decide)).trans (by decide +kernel)
    obtain ⟨hp, g, dr, tk, os⟩ := s1
    refine wpAny_call (T.made X.A _ _ mb v' I1.kIn hGl hBl hsu hlim hdp fun h' tk' e d M => ?_)
    show L2N.MkP X pins σ Q (.ref e) ⟨h', g, dr, tk', os⟩ ∧ L2H.Six (.ref e) ⟨h', g, dr, tk', os⟩
    refine ⟨?_, fun a2 oe2 vs2 ea hg2 hd2 => ?six⟩
    case six =>
      cases ea
      obtain ⟨oe, fv, hoe, hc, hd, hdat, h1, h2, h5⟩ := M.obj
      have z : h'.get? e = some oe2 := hg2
      rw [hoe] at z
      cases z
      rw [hdat] at hd2
      cases hd2
      exact h5
    obtain ⟨oe, fv, hoe, hc, hd, hdat, h1, h2, h5⟩ := M.obj
    have hns := M.ns
    obtain ⟨G', g1, g2⟩ := restrict h' fun b => decide (b ≠ e)
    have gk : ∀ b, b ≠ e → G'.get? b = h'.get? b := fun b hb => g1 b (decide_eq_true hb)
    have ge : G'.get? e = none := g2 e (by simp)
    have old : ∀ b o, hp.get? b = some o → G'.get? b = some o := fun b o q => (gk b (Nat.ne_of_lt (Nat.lt_of_lt_of_le (Heap.lt_size q) M.new))).trans (M.keep b o q)
    have ob : ObjOk X.prog X.w (upd H1 d (.xd [(f, v)])) G' d (.xd [(f, v)]) :=
      ⟨_, hns.at (fun o q => (gk d M.dne).trans q), fun g => relO_one rv g⟩
    have J : Inv X pins σ (upd H1 d (.xd [(f, v)])) ⟨G', g, dr, tk', os⟩ := I1.laid (t' := tk') old M.dbig ob
    refine ⟨e, oe, fv, ⟨G', g, dr, tk', os⟩, _, .ref C, some d, rfl, J, fun b o q => ?_, ge, hoe, ⟨hc, hd, fun vs e => by rw [hdat] at e; cases e; exact h2⟩, hdat, h1, ?_, rfl, I1.bare, raises_own T.exC T.tyC, q1 d (I1.hok.fresh M.dbig)⟩
    · by_cases hb : b = e
      · have q' : G'.get? b = some o := q
        rw [hb, ge] at q'; cases q'
      · exact (gk b hb).symm.trans q
    · rw [upd_ne (Ne.symm M.dne)]
      exact I1.hok.fresh M.new
def tRaiseXs5 (C : Addr) (f : Str) (W : WX) (ta : TA) : TS := fun _ σ H => tXs C f ta σ H fun cls d H' => W cls d σ H'
/-- raise x(e) from None, in an except suite -/
theorem ps_raiseHX {a : Expr} {ta : TA} {W : WX} {p pos pos2 cpos : Pos} {j : Nat} (hot : L2H.HotC X) (T : XsOk X.prog X.w X.K X.mg x f C) (hdp : X.A.depth + 1 < recursionLimit) (tk : L2.Takes X W) (ha : PA X [a] ta) (hg : Gl X x := by rfl) (hdb : (x == ("__debug__" : Str)) = false := by decide)
    (he : starEach (a :: []) X.env = (false, eval a X.env) :: starEach [] X.env := by rfl) (hpl : (backTo pos (starEach [] X.env)).any (·.1) = false := by rfl) :
    PS X (.Raise (some (.Call (.Name x p) [a] [] pos)) (some (.Constant .none j cpos)) pos2) (tRaiseXs5 C f W ta) := L2H.ps_raiseHN hot tk (pmk_xs5 T hdp ha hg hdb he hpl)
end
/-- the clauses, their suites may raise; each exception of the body is named by one -/
inductive HdsX (X : Cx) (Wout : WX) : List ExceptHandler → List (Value × (Addr → Value → Option Addr → TS)) → Prop
  | nil : HdsX X Wout [] []
  | cons {x : Str} {c : Value} {ts : Addr → Value → Option Addr → TS} {b₀ : Stmt} {suite : List Stmt} {np pos' : Pos} {hds : List ExceptHandler} {l : List (Value × (Addr → Value → Option Addr → TS))} (hc : Names X x c)
      (hsu : ∀ (a : Addr) (oe : Obj) (cls : Value) (d : Option Addr) (pn : List (Addr × Obj)), L2N.Zn cls d oe → (∃ vs, oe.data = .fields vs) → L2.Takes (L2H.suiteX X a ((a, oe) :: pn)) Wout → L2H.HotC (L2H.suiteX X a ((a, oe) :: pn)) →
        PSs (L2H.suiteX X a ((a, oe) :: pn)) (b₀ :: suite) (ts a cls d)) (r : HdsX X Wout hds l) : HdsX X Wout (.ExceptHandler (some (.Name x np)) none (b₀ :: suite) pos' :: hds) ((c, ts) :: l)
def tTryX (K : PySem.W.Frag) (tb : WX → TS) (l : List (Value × (Addr → Value → Option Addr → TS))) : TS := fun D σ H => tb (wMany K (fun _ _ _ _ => False) D l) D σ H
theorem ps_tryX {X : Cx} {K : PySem.W.Frag} {body : List Stmt} {h₀ : ExceptHandler} {hds : List ExceptHandler} {l : List (Value × (Addr → Value → Option Addr → TS))} {pos : Pos} {tb : WX → TS} {Wout : WX} (hK : X.K = K) (hs : X.stack = X.env :: X.outer) (hf : X.env.frame = some X.env.locals)
    (hpa : ∀ hd : Option Value, PassesOwnAt (model X.prog X.w) (X.A.mark hd) X.A X.env X.xe) (tk : L2.Takes X Wout)
    (hb : ∀ (W : WX) (pn : List (Addr × Obj)) (xe : Value → Shared → Prop), L2N.Takes (X.tr pn xe) W → PassesOwn (model X.prog X.w) X.A X.env xe → PSs (X.tr pn xe) body (tb W))
    (hh : HdsX X Wout (h₀ :: hds) l) : PS X (.Try body (h₀ :: hds) [] [] pos) (tTryX K tb l) := by
  subst hK
  constructor
  intro pins s σ H D I h
  have ok := I.ok
  have frs0 : X.A.frames = some (X.env :: X.outer) := by rw [ok.frames, hs]
  apply wpAny_Try_except
  have bodyRun := (hb (wMany X.K (fun _ _ _ _ => False) D l) (X.pn ++ pins) (fun e s₁ => wpAny (model X.prog X.w) X.A (noteFrame e X.env) (fun _ s₂ => wpAny (model X.prog X.w) X.A (setFlight e none) (fun _ s₃ => wpAny (model X.prog X.w) X.A (handleBy e X.env (h₀ :: hds)) (SP X pins D) X.xe s₃) X.xe s₂) X.xe s₁)
    ?cc PassesOwn.looking).run [] s σ H D (I.toTry _) h
  case cc =>
    rintro u s' ⟨a, B, sI, pins', σ', H', cls, d, rfl, J', nb, up, sky, na, os, ag, w⟩
    have J : Inv X pins σ' H' sI := J'.ofTry ok
    rw [show (X.tr (X.pn ++ pins) _).stack = X.stack from rfl, hs] at sky
    refine L2N.Sky.land L2N.Zn.steady frs0 hf sky ?_
    intro h3 fl3 up3
    have J3 : Inv X pins σ' H' { s' with heap := h3 } := J.landed nb fl3.1 (up.trans up3) os ag
    obtain ⟨oe3, vs3, he3, hz3, hd3⟩ := fl3.there
    have nfr : a ∉ frs (X.env :: X.outer) := by
      intro hm
      obtain ⟨_, o', e', hnf⟩ := fl3.2.2.1.mem hm
      cases he3.symm.trans e'
      exact hnf _ hd3
    have nL : a ≠ X.env.locals := by
      rintro rfl
      exact nfr (List.mem_filterMap.mpr ⟨X.env, List.mem_cons_self, hf⟩)
    have nF : a ∉ X.fs := by
      intro hm
      obtain ⟨e, he, q⟩ := List.mem_filterMap.mp hm
      exact nfr (List.mem_filterMap.mpr ⟨e, List.mem_cons_of_mem _ he, q⟩)
    have S3 := J3.suite he3 hd3 na nL nF
    suffices go : ∀ (hds' : List ExceptHandler) (l' : List (Value × (Addr → Value → Option Addr → TS))), HdsX X Wout hds' l' → wMany X.K (fun _ _ _ _ => False) D l' cls d σ' H' →
        wpAny (model X.prog X.w) X.A (handleBy (.ref a) X.env hds') (SP X pins D) X.xe { s' with heap := h3 } from go _ _ hh w
    intro hds' l' hk
    induction hk with
    | nil => exact fun w => w.elim
    | @cons x c ts b₀ suite np pos' hds2 l2 hc hsu r ih =>
      rintro ⟨b, hb1, hyes, hno⟩
      refine wpAny_handleBy_cons (codeAny_handlers_test ?_) (by intro q; cases q)
      have looks : PySem.W.Looks (model X.prog X.w) h3 (typeOf (.ref a)) cls := fun A Q E s k q => wpAny_typeOf_ref (k _ _ he3) (by rw [hz3.1]; exact q)
      have LM := PySem.W.exm_one (M := model X.prog X.w) (J3.kIn) looks hb1
      have test : ∀ {Q E : Value → Shared → Prop}, Q c { s' with heap := h3 } → wpAny (model X.prog X.w) (X.A.mark (some (.ref a))) (eval (.Name x np) X.env) Q E { s' with heap := h3 } := by
        intro Q E q
        obtain ⟨hg, hdbg, hm | ⟨hm, hv, hnn⟩⟩ := hc
        · exact ld_glob (X := X.suite a ((a, oe3) :: (X.pn ++ pins))) S3 hg hm q hdbg
        · exact ld_blt (X := X.suite a ((a, oe3) :: (X.pn ++ pins))) S3 hg hm hv q hnn hdbg
      refine test (LM.here ?_)
      rcases b with _ | _
      · show wpAny _ X.A (handleBy (.ref a) X.env hds2) _ _ _
        exact ih (hno rfl)
      · refine codeAny_handlers_suite (HandSPX.lands_againZ fl3 ?_)
        intro h4 fl4 up4
        have J4 : Inv X pins σ' H' { s' with heap := h4 } := J.landed nb fl4.1 ((up.trans up3).trans up4) os ag
        obtain ⟨oe4, vs4, he4, hz4, hd4⟩ := fl4.there
        have S4 := J4.suite he4 hd4 na nL nF
        have tkS : L2.Takes (L2H.suiteX X a ((a, oe4) :: (X.pn ++ pins))) Wout := by
          rintro u2 s2 ⟨a2, B2, sI2, pn2, σ2, H2, cls2, d2, e2, I2, nb2, up2, sky2, na2, os2, ag2, w2⟩
          exact tk u2 s2 ⟨a2, B2, sI2, pins, σ2, H2, cls2, d2, e2, L2H.unsuiteX I2 ok, nb2, up2, sky2, na2, os2, ag2, w2⟩
        have hot : L2H.HotC (L2H.suiteX X a ((a, oe4) :: (X.pn ++ pins))) := ⟨(a, oe4), ⟨rfl, vs4, hd4, hz4.2.2 vs4 hd4⟩, List.mem_cons_self⟩
        refine wpAny_mono ((hsu a oe4 cls d (X.pn ++ pins) hz4 ⟨_, hd4⟩ tkS hot).run [] _ _ H' _ (L2H.suiteX_of S4) (hyes rfl a na)) ?_ (fun e6 s6 z => hpa (some (.ref a)) e6 s6 z)
        intro fl s6 z
        match fl, z with
        | .next, ⟨σ6, H6, S6, q6⟩ => exact ⟨_, _, L2H.unsuiteX S6 ok, q6⟩
        | .brk, ⟨σ6, H6, S6, q6⟩ => exact ⟨_, _, L2H.unsuiteX S6 ok, q6⟩
        | .cont, ⟨σ6, H6, S6, q6⟩ => exact ⟨_, _, L2H.unsuiteX S6 ok, q6⟩
        | .ret u, ⟨v6, σ6, H6, S6, r6, q6⟩ => exact ⟨_, _, _, L2H.unsuiteX S6 ok, r6, q6⟩
  refine wpAny_mono bodyRun ?_ (fun _ _ z => z)
  intro fl s1 z
  match fl, z with
  | .next, ⟨σ', H', J', q⟩ => exact wpAny_execs_nil ⟨σ', H', J'.ofTry ok, q⟩
  | .brk, ⟨σ', H', J', q⟩ => exact ⟨σ', H', J'.ofTry ok, q⟩
  | .cont, ⟨σ', H', J', q⟩ => exact ⟨σ', H', J'.ofTry ok, q⟩
  | .ret u, ⟨v, σ', H', J', r, q⟩ => exact ⟨v, σ', H', J'.ofTry ok, r, q⟩
/-! #### defs whose errors may bear a context -/
theorem sky_down {B : Heap} {l : List Env} {a L : Addr} {cls : Value} {d : Option Addr} {h : Heap} (x : Sky B l a (L2N.Zn cls d) L h) : Sky B l a (Zc cls d) L h := by
  have tr : ∀ {fl : Value}, HandSPX.TracedZ h B a (L2N.Zn cls d) fl → HandSPX.TracedZ h B a (Zc cls d) fl := fun t => L2H.tracedZ_imp (fun _ z => z.zc) t
  rcases x with ⟨h1, h2, h3, oe, vs, h4, h5, h6, h7⟩ | ⟨h1, h2, h3, h4⟩ | ⟨h1, h2, h3, h4⟩
  · exact .inl ⟨h1, h2, h3, oe, vs, h4, h5.zc, h6, h7⟩
  · exact .inr (.inl ⟨h1, h2, h3, tr h4⟩)
  · exact .inr (.inr ⟨h1, h2, h3, tr h4⟩)
theorem takes_down {X : Cx} {W : WX} (tk : L2.Takes X W) : L2N.Takes X W := by
  rintro u s' ⟨a, B, sI, pins, σ, H, cls, d, e, I, nb, up, sky, na, os, ag, w⟩
  exact tk u s' ⟨a, B, sI, pins, σ, H, cls, d, e, I, nb, up, sky_down sky, na, os, ag, w⟩
theorem takes00 {X : Cx} : L2.Takes X (fun _ _ _ _ => False) := by
  rintro u s' ⟨_, _, _, _, _, _, _, _, _, _, _, _, _, _, _, _, q⟩
  exact q.elim
theorem room_dp {k : Nat} {A : Around} (r : Room k A) : A.depth + 1 < recursionLimit := by have := r.dp; omega
def DefC (P : Program) (w : World) (K : PySem.W.Frag) (mg : Str → Option Value) (base : Heap) (x : Str) (k : Nat) (ps : List Str) (sp : Sp) : Prop :=
  ∃ f fd, FnOk P w K mg base (L2.CX P w) k f fd ps sp ∧ mg x = some (.ref f) ∧ PySem.W.keepIn K (.ref f) = true ∧ Binds K fd ps []
section
variable {P : Program} {w : World} {K : PySem.W.Frag} {mg : Str → Option Value} {base : Heap} {x : Str} {st : Stmt} {N ps : List Str} {k : Nat} {sp : Sp}
theorem TopD.okC (T : TopD K mg x st) (S : FnScope N ps (defScope st))
    (hb : ∀ (kV doc pm : Value) (an : Option Addr) (cdv ct : Value) (us : List Value), us.length = ps.length → bindArgs (PySem.W.fnOf x x (defArgs st) (defBody st) (defScope st) .none kV doc pm an cdv ct) ⟨us, []⟩ = pure (ps.zip us))
    (len : ∀ vs H Q E, sp vs H Q E → vs.length = ps.length)
    (hbody : ∀ (f : Addr) (cdv : Value) (A : Around) (outer : List Env) (s : Shared) (H : Hp) (vs : List V) (Q : VK) (E : XK), Room k (A.deeper (envOfC x (defScope st) s.heap.objs.size f cdv)) → sp vs H Q E →
      ∃ t, PSs (cxOf (L2.CX P w) P w K mg base N x (defScope st) f cdv A outer s H E) (defBody st) t ∧ t { nx := fun _ H' => Q .non H', rt := Q } (start N vs) H) : DefC P w K mg base x (k + 1) ps sp := by
  obtain ⟨f, fd, F, hm⟩ := T
  exact ⟨f, fd, F.ok S len fun cdv A outer s H vs Q E hr h => hbody f cdv A outer s H vs Q E hr h, hm, F.kp, F.bindsN hb⟩
end
section
variable {X : Cx} {x : Str} {k : Nat} {ps : List Str} {sp : Sp} {E : XK} {W : WX} {p pos : Pos} {e : Expr} {es : List Expr} {t : TA}
theorem pe_dfC (D : DefC X.prog X.w X.K X.mg X.base x k ps sp) (hr : Room k X.A) (hx : Passes (L2.CX X.prog X.w) X E) (ha : PA X (e :: es) t) (hg : Gl X x := by rfl) (hdb : (x == ("__debug__" : Str)) = false := by decide)
    (hs : starEach (e :: es) X.env = (false, eval e X.env) :: starEach es X.env := by rfl) (hp : (backTo pos (starEach es X.env)).any (·.1) = false := by rfl) : PE X (.Call (.Name x p) (e :: es) [] pos) (tCall sp [] E t) := by
  obtain ⟨f, fd, F, hm, hk, hb⟩ := D
  exact pe_call F hr hg hm hk hb .nil hx ha hdb hs hp
theorem pe_dfCS (D : DefC X.prog X.w X.K X.mg X.base x k ps sp) (hr : Room k X.A) (tk : L2.Takes X W) (ha : PA X (e :: es) t) (hg : Gl X x := by rfl) (hdb : (x == ("__debug__" : Str)) = false := by decide)
    (hs : starEach (e :: es) X.env = (false, eval e X.env) :: starEach es X.env := by rfl) (hp : (backTo pos (starEach es X.env)).any (·.1) = false := by rfl) : PE X (.Call (.Name x p) (e :: es) [] pos) (tCallS sp (WE W) t) := by
  obtain ⟨f, fd, F, hm, hk, hb⟩ := D
  exact pe_callS F hr hg hm hk hb (fun σ => L2.passAt tk σ) ha hdb hs hp
end
def tTryOnlyC (K : PySem.W.Frag) (c : Value) (tb : WX → TS) (ts : Addr → Value → Option Addr → TS) (Wout : WX) : TS := fun D σ H => tb (wOnly K c ts Wout D) D σ H
theorem ps_tryOnlyC {X : Cx} {K : PySem.W.Frag} {x : Str} {c : Value} {body suite : List Stmt} {b₀ : Stmt} {np pos pos' : Pos} {tb : WX → TS} {ts : Addr → Value → Option Addr → TS} {Wout : WX} (hK : X.K = K) (hs : X.stack = X.env :: X.outer) (hf : X.env.frame = some X.env.locals) (hc : Names X x c) (tk : L2.Takes X Wout)
    (hb : ∀ (W : WX) (pn : List (Addr × Obj)) (xe : Value → Shared → Prop), L2.Takes (X.tr pn xe) W → PassesOwn (model X.prog X.w) X.A X.env xe → PSs (X.tr pn xe) body (tb W))
    (hsu : ∀ (a : Addr) (oe : Obj) (cls : Value) (d : Option Addr) (pn : List (Addr × Obj)), Zc cls d oe → (∃ vs, oe.data = .fields vs) → PSs (X.suite a ((a, oe) :: pn)) (b₀ :: suite) (ts a cls d)) :
    PS X (.Try body [.ExceptHandler (some (.Name x np)) none (b₀ :: suite) pos'] [] [] pos) (tTryOnlyC K c tb ts Wout) := by
  subst hK
  exact ps_try_only hs hf hc tk hb hsu
section
variable {K : PySem.W.Frag} {σ : L2.St} {H : Hp} {C : Addr} {f : Str} {W Wout : WX} {ta : TA} {v : V} {N : L2.St → Hp → Prop} {R : VK} {Bk Ct : L2.St → Hp → Prop} {c : Value} {tb : WX → TS} {ts : Addr → Value → Option Addr → TS} {D : Ends} {d : Option Addr} {l : List (Value × (Addr → Value → Option Addr → TS))}
theorem g_tryX (q : tb (wMany K (fun _ _ _ _ => False) ⟨N, R, Bk, Ct⟩ l) ⟨N, R, Bk, Ct⟩ σ H) : tTryX K tb l ⟨N, R, Bk, Ct⟩ σ H := q
theorem g_tryOC (q : tb (wOnly K c ts Wout ⟨N, R, Bk, Ct⟩) ⟨N, R, Bk, Ct⟩ σ H) : tTryOnlyC K c tb ts Wout ⟨N, R, Bk, Ct⟩ σ H := q
theorem g_many1 (e : PySem.W.exmOne K (.ref C) c = some true) (q : ∀ a, H a = none → ts a (.ref C) d D σ H) : WE (wMany K Wout D ((c, ts) :: l)) σ (.ref C) d H := ⟨true, e, fun _ => q, fun z => Bool.noConfusion z⟩
theorem g_many2 (e : PySem.W.exmOne K (.ref C) c = some false) (q : WE (wMany K Wout D l) σ (.ref C) d H) : WE (wMany K Wout D ((c, ts) :: l)) σ (.ref C) d H := ⟨false, e, fun z => Bool.noConfusion z, fun _ => q⟩
theorem g_only1 (e : PySem.W.exmOne K (.ref C) c = some true) (q : ∀ a, H a = none → ts a (.ref C) d D σ H) : WE (wOnly K c ts Wout D) σ (.ref C) d H := ⟨true, e, fun _ => q, fun z => Bool.noConfusion z⟩
theorem g_raise5 (q : ta σ H fun vs H1 => ∃ v, vs = [v] ∧ ∀ d, H1 d = none → W (.ref C) (some d) σ (upd H1 d (.xd [(f, v)]))) : tRaiseXs5 C f W ta ⟨N, R, Bk, Ct⟩ σ H := q
end
end SH
end

section
namespace SH
open PySem PySem.Spec PyProof.Rows L2 LamX
/-! ### a lambda without parameters handed to a def: what it changes is the maker's table of code objects alone -/
section
variable {S : List Addr} {H H' : Hp} {P c : Addr} {ps ps' : Array Value} {q : Str}
theorem tblNe {b : Addr} {o : HO} (hP : H P = some (.tbl ps)) (h : H b = some o) (n : ∀ ps, o ≠ .tbl ps) : b ≠ P := fun z => by
  rw [z, hP] at h
  exact n ps (Option.some.inj h).symm
theorem offTab (hP : H P = some (.tbl ps)) (hc : H c = none) : Off [P] H (upd (upd H P (.tbl ps')) c (CodeO c q)) := by
  have at_ : ∀ b o, b ≠ P → H b = some o → upd (upd H P (.tbl ps')) c (CodeO c q) b = some o := fun b o n e => by rw [upd_ne (ne_of_none e hc), upd_ne n]; exact e
  exact ⟨fun a o n e => at_ a o (by simpa using n) e, fun a xs e => at_ a _ (tblNe hP e (fun _ z => by cases z)) e, fun a o u e => at_ a _ (tblNe hP e (fun _ z => by cases z)) e, fun a o e => by
    by_cases z : a = P
    · exact ⟨_, by rw [upd_ne (ne_of_none e hc), z, upd_same]⟩
    · exact ⟨o, at_ a o z e⟩⟩
/-- a place that holds no code object's fact -/
def NoExt (H : Hp) (S : List Addr) : Prop := ∀ a ∈ S, ∀ φ, H a ≠ some (.ext φ)
theorem NoExt.nil : NoExt H [] := fun a h => by cases h
theorem TabS.off (h : TabS H P q) (o : Off S H H') (n : P ∉ S) (ne : NoExt H S) : TabS H' P q := by
  obtain ⟨ps, h1, h2, h3⟩ := h
  refine ⟨ps, o.at n h1, h2, fun pos cv hc => ?_⟩
  obtain ⟨c, e1, e2⟩ := h3 pos cv hc
  exact ⟨c, e1, o.at (fun z => ne c z _ e2) e2⟩
end
section
variable {X : Cx} {pins : List (Addr × Obj)} {σ : L2.St} {H : Hp} {s : Shared}
theorem lam_make3 {c P : Addr} {q : Str} {params : Arguments} {body : Expr} {scope : Scope} {pos : Pos} {E : Value → Shared → Prop} {Q : Value → Shared → Prop} (hq : q = X.env.qual ++ "<lambda>") (I : Inv X pins σ H s) (TB : TabB X.base X.mg c P) (hcode : X.env.code = .ref c)
    (hT : TabS H P q) (hdef : defaultsOf params X.env = ([], [])) (hfree : ∀ y ∈ scope.names, y.2 = .free → ∃ c, X.env.cells.lookup y.1 = some c)
    (h : ∀ (f c' : Addr) (pm ctv : Value) (H1 : Hp) (s' : Shared), Inv X pins σ H1 s' → Off [P] H H1 → TabS H1 P q →
      s'.heap.get? f = some (PySem.W.kla_obj "<lambda>" q params body scope (cloFrom X.env.cells scope.names []) pm c' ctv) → H1 f = none → f ∉ frs X.stack → H1 c' = some (CodeO c' q) → Q (.ref f) s') :
    wpAny (model X.prog X.w) X.A (eval (.Lambda params body scope pos) X.env) Q E s := by
  subst hq
  obtain ⟨ps, hP, ht, ha⟩ := hT
  have out : ∀ f, s.heap.objs.size ≤ f → f ∉ frs X.stack := by
    intro f hf z
    rcases List.mem_cons.mp (I.stkSub _ z) with e | e
    · have lt := I.lt
      rw [← e] at lt
      exact absurd lt (Nat.not_lt.mpr hf)
    · exact I.nofs hf e
  have getP : s.heap.get? P = some { cls := .none, data := .fields ps } := I.hok P _ hP
  have bm := TB.bm.keeps I.bk
  have cd := TB.code.keeps I.bk
  have gl := I.mod.glob.keeps I.bk
  apply PySem.W.kla_eval hdef
  rcases hc : codeAmong pos ps.toList with _ | cv
  · apply PySem.W.kla_makeFunction (mg := X.mg) (c := c) (P := P) (ps := ps) (closure_ok hfree) I.ok.glob gl hcode cd getP ht hc TB.gP bm
    rintro c' ctv h' tk hx hge hlt ⟨c2, oc, vs, t, e2, hoc, hd, hv⟩ htb
    cases e2
    have big : s.heap.objs.size ≤ h'.objs.size := Nat.le_trans hge (Nat.le_of_lt hlt)
    have nC : H c' = none := I.hok.fresh hge
    have J := inv_table (t' := tk) (more := #[rawInt pos.line, rawInt pos.col, .ref c']) (h' := h'.push (PySem.W.kla_obj "<lambda>" (X.env.qual ++ "<lambda>") params body scope (cloFrom X.env.cells scope.names []) ((X.mg "__name__").getD .none) c' ctv)) I hP
      (fun b o hb e => Heap.get?_push_of_some _ (hx b o hb e)) (Heap.get?_push_of_some _ htb) hge ⟨oc, vs, t, Heap.get?_push_of_some _ hoc, hd, hv⟩
    have o := offTab (ps' := ps ++ #[rawInt pos.line, rawInt pos.col, .ref c']) (q := X.env.qual ++ "<lambda>") hP nC
    apply h h'.objs.size c' ((X.mg "__name__").getD .none) ctv _ _ J o ?tab (Heap.get?_push_size _ rfl) ?new (out _ big) upd_same
    case tab =>
      have eL : (ps ++ #[rawInt pos.line, rawInt pos.col, Value.ref c']).toList = ps.toList ++ [rawInt pos.line, rawInt pos.col, .ref c'] := by simp
      refine ⟨_, by rw [upd_ne (ne_of_none hP nC), upd_same], by rw [eL]; exact PySem.TriplesOk_snoc _ _ _ _ ht, ?_⟩
      intro p' cv hcv
      rw [eL] at hcv
      rcases among_app _ ht hcv with z | rfl
      · obtain ⟨c0, e1, e2⟩ := ha p' cv z
        exact ⟨c0, e1, o.at (by simpa using tblNe hP e2 codeO_ne) e2⟩
      · exact ⟨c', rfl, upd_same⟩
    case new =>
      rw [upd_ne (Nat.ne_of_gt hlt), upd_ne (Nat.ne_of_gt (Nat.lt_of_lt_of_le (Heap.lt_size getP) big))]
      exact I.hok.fresh big
  · obtain ⟨c', rfl, hco⟩ := ha pos cv hc
    apply PySem.W.kla_makeFunctionHit (mg := X.mg) (c := c) (P := P) (ps := ps) (closure_ok hfree) I.ok.glob gl hcode cd getP ht hc bm
    intro ctv h' tk hx big
    exact h h'.objs.size c' ((X.mg "__name__").getD .none) ctv H _ (I.kept fun b o e => Heap.get?_push_of_some _ (hx b o e)) (.refl _ _) ⟨ps, hP, ht, ha⟩ (Heap.get?_push_size _ rfl) (I.hok.fresh big) (out _ big) hco
end
/-- x(lambda: body): the table stands at P -/
def tLam1 (P : Addr) (q : Str) (TT : (XK → Hp → VK → Prop) → Hp → VK → Prop) (t : XK → TE) : TE := fun σ H Q => TabS H P q ∧ ∀ H1, Off [P] H H1 → TabS H1 P q → TT (fun E H' Q' => t E σ H' Q') H1 Q
/-- the def that gets the lambda, its function object told -/
structure GetsL (K : PySem.W.Frag) (mg : Str → Option Value) (x a : Str) (Ng : List Str) (sg : Scope) (bg : List Stmt) (g : Addr) (cdv : Value) : Prop where
  hm : mg x = some (.ref g)
  hk : PySem.W.keepIn K (.ref g) = true
  lk : ∃ oc od pg dV kV doc pm an ct osl, K.lookup g = some ⟨oc, od, .func (PySem.W.fnOf x x pg bg sg dV kV doc pm an cdv ct), osl⟩ ∧ L2.Binds K (PySem.W.fnOf x x pg bg sg dV kV doc pm an cdv ct) [a] []
  hc : PySem.W.codeIn K cdv x = true
  sc : FnScope Ng [a] sg
  n0 : Ng[0]? = some a
  va : Vis sg a
theorem pe_lam1 {X : Cx} {TT : (XK → Hp → VK → Prop) → Hp → VK → Prop} {x a q : Str} {g c P : Addr} {k : Nat} {bg : List Stmt} {sg : Scope} {cdv : Value} {Ng : List Str} {params : Arguments} {body : Expr} {scope : Scope} {t : XK → TE} {p lpos pos : Pos}
    (G : GetsL X.K X.mg x a Ng sg bg g cdv) (hG : GivesTo X Ng x sg g cdv bg a q TT) (TB : TabB X.base X.mg c P) (hcode : X.env.code = .ref c) (hr : Room (k + 2) X.A) (L : LamS X.env.scope scope)
    (hbody : ∀ (A : Around) (outer : List Env) (s : Shared) (H : Hp) (E : XK) (f c' : Addr), Room k (A.deeper (lamEnv X scope s.heap.objs.size f c')) → PE (lamCx X A outer s H E scope f c') body (t E))
    (hg : Gl X x := by rfl) (hq : X.env.qual ++ "<lambda>" = q := by rfl) (hdef : defaultsOf params X.env = ([], []) := by rfl) (hbind : ∀ (q : Str) (cl : List (Str × Addr)) (pm cv ctv : Value), bindArgs (PySem.W.kla_fn "<lambda>" q params body scope cl pm cv ctv) ⟨[], []⟩ = pure [] := by intros; rfl)
    (hdb : (x == ("__debug__" : Str)) = false := by decide) (hd : (a == ("__debug__" : Str)) = false := by decide) (hcd : (a == ("__classdict__" : Str)) = false := by decide) :
    PE X (.Call (.Name x p) [.Lambda params body scope lpos] [] pos) (tLam1 P q TT t) := by
  subst hq
  obtain ⟨oc, od, pg, dV, kV, doc, pm, an, ct, osl, lk, hb⟩ := G.lk
  constructor
  rintro pins s σ H Q I ⟨hT, h⟩
  apply wpAny_Call_Name_kw (ld_glob I hg G.hm ?_ hdb)
  refine PySem.W.callWith_K (h₀ := X.base) I.ok.mod.kin G.hk ?_ (by rfl) (by rfl)
  show wpAny _ _ (spliced ((false, eval (.Lambda params body scope lpos) X.env) :: backTo pos (starEach [] X.env))) _ _ s
  apply Calls.spliced_cons
  apply lam_make3 rfl I TB hcode hT hdef (L.has I.ok)
  intro f c' pm' ctv H1 s' I1 o1 T1 hf hfn hfr hco
  refine Calls.spliced_nil ⟨I1.kIn, ?_⟩
  have run : codeAny (model X.prog X.w) X.A (.call (.ref g) ⟨[.ref f], []⟩) (CR C8.CX0 X.stack X.prog X.w H1 s' Q C8.E0) s' := by
    apply run_ofS (N := Ng) (ps := [a]) (us := [.ref f]) (vs := [.ref f]) lk G.hc G.sc hr I1.env0 (hb s' [.ref f] I1.kIn rfl) (.cons rfl .nil) rfl
    intro hr'
    obtain ⟨t', ht', hq'⟩ := hG f c' s' H1 Q (fun E H' Q' => t E σ H' Q')
      (fun W pn xe E p1 p2 tk hW => pe_act (i := 0) I1 L hf hfn hfr (hbind _ _ _ _ _) tk hW hr' (fun A outer s H hr2 => hbody A outer s H E f c' hr2) G.n0 G.va hd hcd) hco (h H1 o1 T1)
    exact ⟨t', ht'.nox, hq'⟩
  refine wpAny_call (codeAny_mono run ?_)
  intro r s2 z
  match r, z with
  | .ok (.ret u), z => exact I1.after z
  | .error e, z => exact (show False from z).elim
  | .ok .next, z => exact z.elim
  | .ok .brk, z => exact z.elim
  | .ok .cont, z => exact z.elim
/-- a name whose slot is told where the slots are as many as the def's names -/
def tVarL (n i : Nat) (v : V) : TE := fun σ H Q => (σ.length = n → σ[i]? = some (some v)) ∧ Q v H
theorem pe_varL {X : Cx} {e : Expr} {i : Nat} {v : V} (h : PE X e (tVar i)) : PE X e (tVarL X.N.length i v) := ⟨fun pins s σ H Q I q => h.run pins s σ H Q I ⟨v, q.1 I.len, q.2⟩⟩
/-- try: call() / except C as e: return e.f / return "" -/
def TTref (C : Addr) (f : Str) : (XK → Hp → VK → Prop) → Hp → VK → Prop := fun tl H Q =>
  tl (fun cls d H' => ∃ dd v, cls = .ref C ∧ d = some dd ∧ H' dd = some (.xd [(f, v)]) ∧ Q v H') H fun _ H' => Q (.str "") H'
end SH
end

section
namespace Hq
open PySem PySem.Spec PyProof.Rows L2 He
/-! ### the head's facts, with own errors whose __init__ closes over its class -/
structure XD where
  x : Str
  f : Str
  qual : Str
  params : Arguments
  body : List Stmt
  scope : Scope
abbrev FnC : Type := Option (Str × Str × Arguments × FuncBody × Scope × Addr × List Str × Addr)
def XD.p (d : XD) : Str × Option Str := (d.x, some "__init__")
def fnC (K : PySem.W.Frag) (p : Str × Option Str) : FnC := match K.lookup (fAd K p) with
  | some ⟨_, _, .func fd, _⟩ => some (fd.name, fd.qualname, fd.params, fd.body, fd.scope, fd.globals, fd.closure.map (·.1), fd.builtins)
  | _ => none
def XD.val (d : XD) : FnC := some ("__init__", d.qual, d.params, .stmts d.body, d.scope, mainGlobals, ["__class__"], builtinsNs)
def newB (l : List (Option Value)) : Bool := match l with
  | [_, _, _, _, some (.builtin b), _] => decide (b = "ValueError.__new__")
  | _ => false
theorem newB_ok : ∀ {l : List (Option Value)}, newB l = true → ∃ a0 a1 a2 a3 a5, l = [a0, a1, a2, a3, some (.builtin "ValueError.__new__"), a5]
  | [], h => by cases h
  | [_], h => by cases h
  | [_, _], h => by cases h
  | [_, _, _], h => by cases h
  | [_, _, _, _], h => by cases h
  | [_, _, _, _, _], h => by simp [newB] at h
  | _ :: _ :: _ :: _ :: _ :: _ :: _ :: _, h => by simp [newB] at h
  | [a0, a1, a2, a3, a4, a5], h => by
    cases a4 with
    | none => cases h
    | some v =>
      cases v with
      | builtin b =>
        obtain rfl : b = "ValueError.__new__" := of_decide_eq_true h
        exact ⟨a0, a1, a2, a3, a5, rfl⟩
      | _ => cases h
/-- the class's own object -/
def clsB (K : PySem.W.Frag) (C : Addr) : Bool := match K.lookup C with
  | some ⟨.type t, _, .cls cd, sl⟩ => decide (t = "type") && (cd.hasDict && (!cd.hasDel && ((match cd.mro with
    | .ref c :: bm => decide (c = C) && PySem.HandSPX.refsVE bm
    | _ => false) && newB sl.toList)))
  | _ => false
theorem clsB_ok {K : PySem.W.Frag} {C : Addr} (h : clsB K C = true) : ∃ nm q N bs bm sn sub ab col dd k0 k1 k2 k3 k5, K.lookup C = some (excClassObj nm q C N bs bm true sn sub ab col dd k0 k1 k2 k3 k5 "ValueError.__new__") ∧ PySem.HandSPX.refsVE bm = true := by
  unfold clsB at h
  cases q : K.lookup C with
  | none => rw [q] at h; cases h
  | some o =>
    obtain ⟨oc, od, dt, sl⟩ := o
    rw [q] at h
    cases oc with
    | type t =>
      cases dt with
      | cls cd =>
        obtain ⟨h1, h⟩ := ba h
        obtain ⟨h2, h⟩ := ba h
        obtain ⟨h3, h⟩ := ba h
        obtain ⟨h4, h5⟩ := ba h
        obtain ⟨nm, bs, mro, ns, qn, hd, sn, sub, ab, col, del⟩ := cd
        simp only at h2 h3 h4
        obtain rfl : t = "type" := of_decide_eq_true h1
        subst h2
        obtain rfl : del = false := by cases del with
          | false => rfl
          | true => cases h3
        cases mro with
        | nil => cases h4
        | cons v bm =>
          cases v with
          | ref c =>
            obtain ⟨h6, h7⟩ := ba h4
            obtain rfl : c = C := of_decide_eq_true h6
            obtain ⟨sll⟩ := sl
            obtain ⟨a0, a1, a2, a3, a5, e⟩ := newB_ok h5
            have e2 : sll = [a0, a1, a2, a3, some (.builtin "ValueError.__new__"), a5] := e
            subst e2
            exact ⟨nm, qn, ns, bs, bm, sn, sub, ab, col, od, a0, a1, a2, a3, a5, rfl, h7⟩
          | _ => cases h4
      | _ => cases h
    | _ => cases dt <;> cases h
/-- the def: no defaults, its code's file, its cell -/
def fnB (prog : Program) (K : PySem.W.Frag) (d : XD) : Bool := match K.lookup (fAd K d.p) with
  | some ⟨_, _, .func fd, _⟩ => (match fd.defaults, fd.kwdefaults, fd.closure, fd.code with
    | .none, .none, [(_, cc)], .ref cda => PySem.W.codeIn K (.ref cda) d.qual && ((match K.lookup cda with
      | some ⟨_, _, .fields vs, _⟩ => (match (vs[2]? : Option Value) with
        | some (.str file _) => (prog.main.file : Str) == file
        | _ => false)
      | _ => false) && (match K.lookup cc with
      | some ⟨_, _, .cell (some (.ref c)), _⟩ => decide (c = ga K d.x)
      | _ => false))
    | _, _, _, _ => false)
  | _ => false
def txtB (prog : Program) (K : PySem.W.Frag) (d : XD) : Bool :=
  fnB prog K d && (clsB K (ga K d.x) && ([eqO (PySem.W.nsIn K mainGlobals d.x) (some (some (.ref (ga K d.x)))), decide (PySem.W.ks_superIn K (ga K d.x) (ga K d.x) "__init__" = some (some (.builtin "ValueError.__init__"))),
    eqO (PySem.W.findIn K (.ref (ga K d.x)) "__setattr__") (some (some (.builtin "object.__setattr__"))), eqO (PySem.W.findIn K (.ref (ga K d.x)) d.f) (some none),
    eqO (PySem.W.findIn K (.ref (ga K d.x)) "__init__") (some (some (.ref (fAd K d.p)))), decide (PySem.W.typeIn K (.ref (fAd K d.p)) = some (.type "function")), PySem.W.keepIn K (.ref (ga K d.x)),
    decide (PySem.W.subIn K (.ref (ga K d.x)) (.type "BaseException") = some true), decide (PySem.W.subIn K (.ref (ga K d.x)) (.type "ValueError") = some true), decide (PySem.W.mroIn K (ga K d.x) (.ref (ga K d.x)) = some true),
    decide (PySem.W.typeIn K (.ref (ga K d.x)) = some (.type "type")), !(prog.main.scope.names.lookup ("super" : Str)).isSome, eqO (PySem.W.nsIn K mainGlobals "super") (some none), eqO (PySem.W.nsIn K cStatics "thirdparty.any") (some none)].all id))
theorem txtB_ok {prog : Program} {K : PySem.W.Frag} {h : Heap} {mg : Str → Option Value} {d : XD} (X : K.In h) (G : h.Ns mainGlobals mg) (nm : PySem.XsX.NmOk d.f) (e : fnC K d.p = d.val) (c : txtB prog K d = true)
    {p1 p2 q0 q1 q2 q3 q4 q5 q6 q7 q8 q9 : Pos} (ea : d.params = PySem.XsX.iA d.f p1 p2) (eb : d.body = PySem.XsX.iB d.f q0 q1 q2 q3 q4 q5 q6 q7 q8 q9) (es : d.scope = PySem.XsX.iS d.f) (el : (q2.endLine == q4.line) = true) :
    PySem.XsX.XsTxt prog K mg d.x d.f (ga K d.x) (fAd K d.p) := by
  obtain ⟨hf, c⟩ := ba c
  obtain ⟨hc, c⟩ := ba c
  simp only [List.all_cons, List.all_nil, Bool.and_true, Bool.and_eq_true, id_eq, decide_eq_true_eq, Bool.not_eq_true'] at c
  obtain ⟨c1, c2, c3, c4, c5, c6, c7, c8, c9, c10, c11, c12, c13, c14⟩ := c
  refine ⟨nm, PySem.W.mg_of X G (eqO_ok c1), clsB_ok hc, c2, eqO_ok c3, eqO_ok c4, eqO_ok c5, c6, c7, c8, c9, c10, c11, c12, eqO_ok c13, eqO_ok c14, ?_⟩
  unfold fnB at hf
  unfold fnC at e
  cases q : K.lookup (fAd K d.p) with
  | none => rw [q] at hf; cases hf
  | some o =>
    obtain ⟨oc, od, dt, osl⟩ := o
    rw [q] at hf e
    cases dt with
    | func fd =>
      obtain ⟨n1, n2, n3, n4, n5, n6, n7, n8, n9, n10, n11, n12, n13, n14, n15⟩ := fd
      have e2 : (some (n1, n2, n3, n4, n5, n6, n7.map (·.1), n15) : FnC) = some (("__init__" : Str), d.qual, d.params, FuncBody.stmts d.body, d.scope, mainGlobals, (["__class__"] : List Str), builtinsNs) := e
      simp only [Option.some.injEq, Prod.mk.injEq] at e2
      obtain ⟨h1, h2, h3, h4, h5, h6, h7, h8⟩ := e2
      simp only at hf
      split at hf
      · rename_i y cc cda
        obtain ⟨k1, hf⟩ := ba hf
        obtain ⟨k2, k3⟩ := ba hf
        have hy : y = "__class__" := by simpa using h7
        cases qa : K.lookup cda with
        | none => rw [qa] at k2; cases k2
        | some oa =>
          obtain ⟨ac, ad, adt, asl⟩ := oa
          rw [qa] at k2
          cases adt with
          | fields vs =>
            simp only at k2
            cases qv : vs[2]? with
            | none => rw [qv] at k2; cases k2
            | some vv =>
              rw [qv] at k2
              cases vv with
              | str file tf =>
                cases qb : K.lookup cc with
                | none => rw [qb] at k3; cases k3
                | some ob =>
                  obtain ⟨bc, bd, bdt, bsl⟩ := ob
                  rw [qb] at k3
                  cases bdt with
                  | cell cv =>
                    cases cv with
                    | none => cases k3
                    | some cv =>
                      cases cv with
                      | ref c0 =>
                        have hc0 : c0 = ga K d.x := of_decide_eq_true k3
                        subst h1 h2 h3 h4 h5 h6 h8 hy
                        subst hc0
                        refine ⟨d.qual, oc, od, n10, n11, n12, cda, cc, n14, osl, p1, p2, q0, q1, q2, q3, q4, q5, q6, q7, q8, q9, ac, ad, vs, asl, file, tf, bc, bd, bsl, ?_, k1, qa, qv, k2, qb, el⟩
                        rw [ea, eb, es]
                      | _ => cases k3
                  | _ => cases k3
              | _ => cases k2
          | _ => cases k2
      · cases hf
    | _ => cases hf
/-! ### the Hook -/
abbrev AlQ : Type := AlD × Bool × List FnC
def obsQ (fa : List Fa) (fn : List DefD) (xs : List XD) (ex : PySem.W.Frag → Bool) (prog : Program) (K : PySem.W.Frag) : AlQ := (obsD fa fn K, ex K && xs.all fun d => txtB prog K d, xs.map fun d => fnC K d.p)
def valQ (fn : List DefD) (xs : List XD) : AlQ := (valD fn, true, xs.map XD.val)
def frQ (n : Nat) (g : Addr → Option Obj) : PySem.W.Frag := frG g (cStatics :: asD g n)
def hookQ (n : Nat) (fa : List Fa) (fn : List DefD) (xs : List XD) (ex : PySem.W.Frag → Bool) (prog : Program) : PySem.W.Hook where
  α := AlQ
  obs := fun s => obsQ fa fn xs ex prog (frQ n s.heap.get?)
  val := fun _ => valQ fn xs
  says := fun _ h => ∃ K : PySem.W.Frag, K.In h ∧ obsQ fa fn xs ex prog K = valQ fn xs
  of := fun _ _ e => ⟨_, frG_in, e⟩
  keeps := fun _ _ _ ⟨K, hK, c⟩ k => ⟨K, PySem.W.Frag.In.keeps hK k, c⟩
section
variable {fa : List Fa} {fn : List DefD} {xs : List XD} {ex : PySem.W.Frag → Bool} {prog : Program} {K : PySem.W.Frag}
theorem says_d (c : obsQ fa fn xs ex prog K = valQ fn xs) : SaysD fa fn K := congrArg (fun z : AlQ => z.1) c
theorem says_ex (c : obsQ fa fn xs ex prog K = valQ fn xs) : ex K = true := (ba (congrArg (fun z : AlQ => z.2.1) c : (ex K && xs.all fun d => txtB prog K d) = true)).1
theorem says_x (c : obsQ fa fn xs ex prog K = valQ fn xs) {d : XD} (h : d ∈ xs) : fnC K d.p = d.val ∧ txtB prog K d = true := by
  have c1 := List.all_eq_true.mp (ba (congrArg (fun z : AlQ => z.2.1) c : (ex K && xs.all fun d => txtB prog K d) = true)).2 d h
  refine ⟨?_, c1⟩
  have e : xs.map (fun d => fnC K d.p) = xs.map XD.val := congrArg (fun z : AlQ => z.2.2) c
  obtain ⟨i, hi, rfl⟩ := List.mem_iff_getElem.mp h
  have e2 : (xs.map fun d => fnC K d.p)[i]? = (xs.map XD.val)[i]? := by rw [e]
  rw [List.getElem?_map, List.getElem?_map, List.getElem?_eq_getElem hi] at e2
  exact Option.some.inj e2
theorem facts_d (c : SaysD fa fn K) {f : Fa} (h : f ∈ fa) : f.ok K = true := SaysD.facts c h
end
end Hq
end

section
namespace SH
open PySem PySem.Spec PyProof.Rows L2 LamX
/-! ### lists and tuples repeated; three names at once -/
section
variable {X : Cx} {σ : L2.St} {H : Hp} {Q : VK} {K : PySem.W.Frag} {l a b : Addr} {xs ys : List V} {N : L2.St → Hp → Prop} {R : VK} {Bk Ct : L2.St → Hp → Prop}
theorem g_rep {k : Int} (h : H l = some (.lst xs)) (k0 : 0 ≤ k) (k1 : k ≤ 100000) (hz : xs.length ≤ 100) (q : ∀ p, H p = none → Q (.ref p) (upd H p (.lst (List.replicate k.toNat xs).flatten))) : rRep (.ref l) (.int k) H Q :=
  ⟨l, k, xs, rfl, rfl, h, by omega, by omega, by
    rw [sizeLine_eq]
    have : xs.length * k.toNat ≤ 100 * 100000 := Nat.mul_le_mul hz (by omega)
    omega, q⟩
def rRepB (K : PySem.W.Frag) : R2 := fun x y H Q => ∃ l k xs, x = .ref l ∧ y = .int k ∧ SqT K H l xs ∧ xs ≠ [] ∧ 2 ≤ k ∧ k ≤ 100000 ∧ xs.length ≤ 100 ∧ ∀ p, H p = none → Q (.ref p) (upd H p (.tup (List.replicate k.toNat xs).flatten))
theorem op_repB (hK : X.K = K) : OpR X (binaryOp .Mult) (rRepB K) := by
  subst hK
  intro pins s σ H x y v u Q I rx ry h
  obtain ⟨l, k, xs, rfl, rfl, hT, hne, h1, h2, hz, q⟩ := h
  cases rx
  obtain ⟨t, rfl⟩ := ry
  obtain ⟨its, r, ⟨⟨cls, dd, data, sl⟩, ho, hc, n, hd⟩, hs⟩ := I.tuple hT
  simp only at hc hd
  subst hc hd
  have hle : its.length = xs.length := r.length.symm
  have hn : its ≠ [] := fun e => hne (by
    rw [e] at hle
    exact List.eq_nil_of_length_eq_zero hle.symm)
  have hi : its.toArray.isEmpty = false := by
    cases its with
    | nil => exact absurd rfl hn
    | cons a b => rfl
  have hsz0 : its.toArray.size = xs.length := by rw [List.size_toArray, hle]
  have hm : ((its.toArray.size : Nat) : Int) * k ≤ 10000000 := by
    rw [hsz0]
    have a1 : ((xs.length : Nat) : Int) * k ≤ 100 * k := Int.mul_le_mul_of_nonneg_right (by omega) (by omega)
    omega
  have flen : (List.replicate k.toNat its).flatten.length ≤ sizeLine := by
    rw [PyProof.Rows.lm_len_rep_flat, hle, sizeLine_eq]
    have a1 : k.toNat * xs.length ≤ 100000 * 100 := Nat.mul_le_mul (by omega) hz
    omega
  have c0 : (decide (k < -(2 ^ 63)) || decide (k ≥ 2 ^ 63)) = false := by
    rw [decide_eq_false (by omega), decide_eq_false (by omega)] <;> rfl
  have c1 : (its.toArray.isEmpty || k == 1) = false := by
    rw [hi, Bool.false_or]
    exact beq_eq_false_iff_ne.mpr (by omega)
  have c2 : (decide (k ≤ 0) || its.toArray.isEmpty) = false := by
    rw [hi, Bool.or_false]
    exact decide_eq_false (by omega)
  have c4 : Builtin.Tuple.tupleTooMany (((its.toArray.size : Nat) : Int) * k) = false := by
    unfold Builtin.Tuple.tupleTooMany
    rw [sizeLine_eq]
    exact decide_eq_false (by omega)
  refine wpAny_binaryOp_repeat_ref (T := "tuple") (U := "int") (by decide) ⟨_, ho, rfl⟩ (fun s' => typeIs_int s' k t) noFill_tuple_mul F.fills_int_mul F.slot_int_rmul repeat_tuple F.slot_int_index.lookup
    (call_meets F.slot_int_rmul (typeIs_int s k t) F.entry_int_rmul (F.args_int_rmul_2 _ _) (int_rmul_tuple k t l its.toArray n dd sl)
      ⟨ho, rfl, ⟨_, ho, rfl⟩, call_meets F.slot_tuple_mul ⟨_, ho, rfl⟩ F.entry_tuple_mul (F.args_tuple_mul_2 _ _) (tuple_mulW l its.toArray n dd sl k t c0 c1 c2 (by omega) c4 (by rw [size_rep, List.size_toArray]; exact flen)) ⟨ho, ?_⟩⟩)
  rw [size_rep]
  refine ⟨.ref s.heap.objs.size, _, I.laid (t' := s.toks) (o := .tup (List.replicate k.toNat xs).flatten) (fun b ob q => Heap.get?_push_of_some _ q) (Nat.le_refl _) ?_, rfl, q _ (I.hok.fresh (Nat.le_refl _))⟩
  exact ⟨by rw [PyProof.Rows.lm_len_rep_flat, sizeLine_eq]; have a1 : k.toNat * xs.length ≤ 100000 * 100 := Nat.mul_le_mul (by omega) hz; omega, _, r.rep k.toNat, IsTup.new _ _⟩
theorem g_repB {k : Int} (h : SqT K H l xs) (ne : xs ≠ []) (k0 : 2 ≤ k) (k1 : k ≤ 100000) (hz : xs.length ≤ 100) (q : ∀ p, H p = none → Q (.ref p) (upd H p (.tup (List.replicate k.toNat xs).flatten))) : rRepB K (.ref l) (.int k) H Q := ⟨l, k, xs, rfl, rfl, h, ne, k0, k1, hz, q⟩
theorem op_catAK (hK : X.K = K) : OpR X (binaryOp .Add) (rCatA K) := by subst hK; exact op_catA
/-- t + (v, ..) -/
theorem g_catA (h1 : SqT K H a xs) (h2 : SqT K H b ys) (hz : xs.length + ys.length ≤ sizeLine) (q : ∀ p H', SqT K H' p (xs ++ ys) → Off [] H H' → Q (.ref p) H') : rCatA K (.ref a) (.ref b) H Q := by
  refine ⟨a, b, xs, ys, rfl, rfl, h1, h2, hz, fun e => ?_, fun _ e => ?_, fun _ _ p hp => ?_⟩
  · exact q b H (by rw [e, List.nil_append]; exact h2) (.refl _ _)
  · exact q a H (by rw [e, List.append_nil]; exact h1) (.refl _ _)
  · exact q p _ (.of upd_same) (.new hp)
theorem g_par3 {i j m : Nat} {ta : TA} (q : ta σ H fun vs H1 => ∃ u v w, vs = [u, v, w] ∧ N (((σ.set i (some u)).set j (some v)).set m (some w)) H1) : tPar3 i j m ta ⟨N, R, Bk, Ct⟩ σ H := q
theorem g_par33 {i j m : Nat} {u v w : V} (q : N (((σ.set i (some u)).set j (some v)).set m (some w)) H) : ∃ u' v' w', [u, v, w] = [u', v', w'] ∧ N (((σ.set i (some u')).set j (some v')).set m (some w')) H := ⟨u, v, w, rfl, q⟩
theorem g_isBF {x y : Bool} (q : Q (.bl (decide (x = y))) H) : rIsB (.bl x) (.bl y) H Q := ⟨x, y, rfl, rfl, q⟩
end
/-! #### a def whose code object is known: it makes lambdas -/
/-- the def's code object is c -/
def CodeOf (K : PySem.W.Frag) (mg : Str → Option Value) (x : Str) (c : Addr) : Prop := ∀ f oc od fd osl, mg x = some (.ref f) → K.lookup f = some ⟨oc, od, .func fd, osl⟩ → fd.code = .ref c
section
variable {P : Program} {w : World} {K : PySem.W.Frag} {mg : Str → Option Value} {base : Heap} {x : Str} {st : Stmt} {N ps : List Str} {k : Nat} {sp : Sp} {c : Addr}
theorem TopD.okT (T : TopD K mg x st) (S : FnScope N ps (defScope st)) (hco : CodeOf K mg x c)
    (hb : ∀ (kV doc pm : Value) (an : Option Addr) (cdv ct : Value) (us : List Value), us.length = ps.length → bindArgs (PySem.W.fnOf x x (defArgs st) (defBody st) (defScope st) .none kV doc pm an cdv ct) ⟨us, []⟩ = pure (ps.zip us))
    (len : ∀ vs H Q E, sp vs H Q E → vs.length = ps.length)
    (hbody : ∀ (f : Addr) (A : Around) (outer : List Env) (s : Shared) (H : Hp) (vs : List V) (Q : VK) (E : XK), Room k (A.deeper (envOfC x (defScope st) s.heap.objs.size f (.ref c))) → sp vs H Q E →
      ∃ t, PSs (cxOf (L2N.CX P w) P w K mg base N x (defScope st) f (.ref c) A outer s H E) (defBody st) t ∧ t { nx := fun _ H' => Q .non H', rt := Q } (start N vs) H) : DefOk P w K mg base x (k + 1) ps sp := by
  obtain ⟨f, fd, F, hm⟩ := T
  have hkp := F.kp
  have hbn := F.bindsN hb
  obtain ⟨oc, od, dV, kV, doc, pm, an, cdv, ct, osl, rfl, lk, hcd, _, _⟩ := F.ex
  have e : cdv = .ref c := hco f _ _ _ _ hm lk
  subst e
  exact ⟨f, _, fn_of lk hcd S len fun A outer s H vs Q E hr hsp => hbody f A outer s H vs Q E hr hsp, hm, hkp, hbn⟩
theorem codeOf_tab {h : Heap} {c P' : Addr} (X : K.In h) (G : h.Ns mainGlobals mg) (e : PySem.W.tabIn K x = some (c, P')) : CodeOf K mg x c := by
  intro f oc od fd osl hm lk
  unfold PySem.W.tabIn at e
  split at e
  · rename_i f2 hf
    have e1 := PySem.W.mg_of X G hf
    rw [hm] at e1
    cases e1
    rw [lk] at e
    simp only at e
    split at e
    · rename_i c2 hc
      split at e
      · split at e
        · cases e
          exact hc
        · cases e
      · cases e
    · cases e
  · cases e
end
/-- what is known of the makers' tables at the law's call -/
def TabsOf (q : Program) (h : Heap) : Prop := ∀ (K : PySem.W.Frag) (x : Str) (c P : Addr) (d : DefRec), K.In h → (recsOf q).find? (fun e => e.name == x) = some d → PySem.W.tabIn K x = some (c, P) → PySem.W.CodeHd h c P ∧ h.get? P = some { cls := .none, data := .fields #[] }
theorem walk_ofT5 {l : PySem.W.OpenLaw} {n k : Nat} {q : Program} {loose : List Str} {XP : (Str → Option Value) → Heap → Prop} {YP : World → Heap → Prop} {d : DefRec} {CX : World → CXT} {x : Str}
    (hn : l.most = some n) (hn2 : n ≤ sizeLine) (hdf : d.params.defaults = []) (hr : Room k callerA)
    (F : ∀ (w : World) (mg : Str → Option Value) (fa : Addr) (h : Heap), YP w h → h.Ns mainGlobals mg → mg d.name = some (.ref fa) → TabsOf q h → ∃ K : PySem.W.Frag, K.In h ∧ LawAtS l w K (CX w) k n x mg fa h)
    (hCX : ∀ (w : World) (H : Hp) (s : Shared) (e : Value) (s' : Shared), CX w [] H s (fun _ _ _ => False) e s' → False) :
    PySem.W.WalkO q loose XP YP l.row.toRowW d [] (fun f vs => PySem.call f vs) := by
  refine Att.attach_callB hn hdf fun w s₀ s₁ mg mb fa o pm cd doc a vs ns G Y ho hd hcd hmg hobj hints hlen hbits hg => ?_
  obtain ⟨K, KX, fd, cs, sp, hT, nT, C, hb, hsp, hF⟩ := F w mg fa _ Y G.T.g hmg fun K x c P d X hr ht => PySem.W.tab_of G.T X hr ht
  exact law_callTs KX G.T.g G.T.b G.T.builtins G.T.nolimit hg hT nT C G.T.bmain hobj hints (Nat.le_trans hlen hn2) hr hF hb (fun H hH hS => hsp H a ns hlen hbits hH hS) fun H e s' => hCX w H s₁ e s'
/-- the def's table stands outside what is known -/
def tabB (K : PySem.W.Frag) (x : Str) : Bool := match PySem.W.tabIn K x with
  | some (_, P) => (K.lookup P).isNone
  | none => false
theorem tabB_ok {K : PySem.W.Frag} {x : Str} (h : tabB K x = true) : ∃ c P, PySem.W.tabIn K x = some (c, P) ∧ K.lookup P = none := by
  unfold tabB at h
  split at h
  · rename_i c P e
    exact ⟨c, P, e, by simpa using h⟩
  · cases h
theorem sql_ne {K : PySem.W.Frag} {H : Hp} {a P : Addr} {xs : List V} {ps : Array Value} (h : SqL K H a xs) (hP : H P = some (.tbl ps)) (hn : K.lookup P = none) : a ≠ P := by
  rintro rfl
  rcases h with (h | ⟨o, h⟩) | h
  · rw [hP] at h; cases h
  · rw [hP] at h; cases h
  · obtain ⟨_, _, _, e, _⟩ := h
    rw [hn] at e; cases e
end SH
namespace Hq
open PySem PySem.Spec PyProof.Rows L2 He
/-! ### a Hook that leaves the tables of code objects out -/
def rmT (K : PySem.W.Frag) : PySem.W.Frag := K.filter fun p => match p.2 with
  | ⟨.none, _, .fields vs, _⟩ => !vs.isEmpty
  | _ => true
def frT (n : Nat) (g : Addr → Option Obj) : PySem.W.Frag := rmT (frQ n g)
theorem frT_in {n : Nat} {h : Heap} : (frT n h.get?).In h := by
  intro b o e
  have m0 : (b, o) ∈ frT n h.get? := PySem.W.mem_of_lookupK e
  unfold frT rmT at m0
  have m := (List.mem_filter.mp m0).1
  obtain ⟨a, _, e2⟩ := List.mem_filterMap.mp (show (b, o) ∈ List.filterMap _ _ from m)
  cases q : h.get? a with
  | none => rw [q] at e2; cases e2
  | some u =>
    rw [q] at e2
    cases e2
    exact q
def hookT (n : Nat) (fa : List Fa) (fn : List DefD) (xs : List XD) (ex : PySem.W.Frag → Bool) (prog : Program) : PySem.W.Hook where
  α := AlQ
  obs := fun s => obsQ fa fn xs ex prog (frT n s.heap.get?)
  val := fun _ => valQ fn xs
  says := fun _ h => ∃ K : PySem.W.Frag, K.In h ∧ obsQ fa fn xs ex prog K = valQ fn xs
  of := fun _ _ e => ⟨_, frT_in, e⟩
  keeps := fun _ _ _ ⟨K, hK, c⟩ k => ⟨K, PySem.W.Frag.In.keeps hK k, c⟩
end Hq
end

section
namespace SH
open PySem PySem.Spec PyProof.Rows L2 LamX
/-! ### defs over any exceptions: called by keywords, where no showing is under way, with their code known -/
def DefLX (CX : CXT) (P : Program) (w : World) (K : PySem.W.Frag) (mg : Str → Option Value) (base : Heap) (x : Str) (k : Nat) (ps : List Str) (sp : Sp) : Prop :=
  ∃ f fd, FnOk P w K mg base CX k f fd ps sp ∧ mg x = some (.ref f) ∧ PySem.W.keepIn K (.ref f) = true ∧ Binds K fd ps [] ∧ ∃ oc od osl, K.lookup f = some ⟨oc, od, .func fd, osl⟩
def DefGX (CX : CXT) (P : Program) (w : World) (K : PySem.W.Frag) (mg : Str → Option Value) (base : Heap) (x : Str) (k : Nat) (ps : List Str) (sp : Sp) : Prop :=
  ∃ f fd, FnG P w K mg base CX k f fd ps sp ∧ mg x = some (.ref f) ∧ PySem.W.keepIn K (.ref f) = true ∧ Binds K fd ps [] ∧ ∃ oc od osl, K.lookup f = some ⟨oc, od, .func fd, osl⟩
section
variable {CX : CXT} {P : Program} {w : World} {K : PySem.W.Frag} {mg : Str → Option Value} {base : Heap} {x : Str} {st : Stmt} {N ps : List Str} {k : Nat} {sp : Sp}
theorem TopD.okLX (T : TopD K mg x st) (S : FnScope N ps (defScope st))
    (hb : ∀ (kV doc pm : Value) (an : Option Addr) (cdv ct : Value) (us : List Value), us.length = ps.length → bindArgs (PySem.W.fnOf x x (defArgs st) (defBody st) (defScope st) .none kV doc pm an cdv ct) ⟨us, []⟩ = pure (ps.zip us))
    (len : ∀ vs H Q E, sp vs H Q E → vs.length = ps.length)
    (hbody : ∀ (f : Addr) (cdv : Value) (A : Around) (outer : List Env) (s : Shared) (H : Hp) (vs : List V) (Q : VK) (E : XK), Room k (A.deeper (envOfC x (defScope st) s.heap.objs.size f cdv)) → sp vs H Q E →
      ∃ t, PSs (cxOf CX P w K mg base N x (defScope st) f cdv A outer s H E) (defBody st) t ∧ t { nx := fun _ H' => Q .non H', rt := Q } (start N vs) H) : DefLX CX P w K mg base x (k + 1) ps sp := by
  obtain ⟨f, fd, F, hm⟩ := T
  obtain ⟨oc, od, dV, kV, doc, pm, an, cdv, ct, osl, _, lk, _, _, _⟩ := F.ex
  exact ⟨f, fd, F.ok S len fun cdv A outer s H vs Q E hr h => hbody f cdv A outer s H vs Q E hr h, hm, F.kp, F.bindsN hb, oc, od, osl, lk⟩
theorem TopD.okGX (T : TopD K mg x st) (S : FnScope N ps (defScope st))
    (hb : ∀ (kV doc pm : Value) (an : Option Addr) (cdv ct : Value) (us : List Value), us.length = ps.length → bindArgs (PySem.W.fnOf x x (defArgs st) (defBody st) (defScope st) .none kV doc pm an cdv ct) ⟨us, []⟩ = pure (ps.zip us))
    (len : ∀ vs H Q E, sp vs H Q E → vs.length = ps.length)
    (hbody : ∀ (f : Addr) (cdv : Value) (A : Around) (outer : List Env) (s : Shared) (H : Hp) (vs : List V) (Q : VK) (E : XK), (∀ c, CodeOf K mg x c → cdv = .ref c) → (A.deeper (envOfC x (defScope st) s.heap.objs.size f cdv)).guards = some [] → Room k (A.deeper (envOfC x (defScope st) s.heap.objs.size f cdv)) → sp vs H Q E →
      ∃ t, PSs (cxOf CX P w K mg base N x (defScope st) f cdv A outer s H E) (defBody st) t ∧ t { nx := fun _ H' => Q .non H', rt := Q } (start N vs) H) : DefGX CX P w K mg base x (k + 1) ps sp := by
  obtain ⟨f, fd, F, hm⟩ := T
  have hkp := F.kp
  have hbn := F.bindsN hb
  obtain ⟨oc, od, dV, kV, doc, pm, an, cdv, ct, osl, rfl, lk, hcd, _, _⟩ := F.ex
  refine ⟨f, _, ⟨len, ?_⟩, hm, hkp, hbn, _, _, _, lk⟩
  intro A outer s H args us vs Q E hg hr e0 hbd rv hsp
  obtain ⟨t, ht, hq⟩ := hbody f cdv A outer s H vs Q E (fun c hc => hc f _ _ _ _ hm lk) hg (hr.deeper _) hsp
  have old : ∀ b o, base.get? b = some o → s.heap.get? b = some o := fun b o e => (e0.bs b o e).1
  have kin : K.In s.heap := e0.mod.kin.keeps old
  have kinds : ∀ y ∈ ps.zip us, (defScope st).names.lookup y.1 = some .local ∨ ((defScope st).names.lookup y.1 = some .cell ∧ ((cellsFrom (s.heap.objs.size + 1) (defScope st).names []).lookup y.1).isSome = true) := by
    intro y hy
    have hz := S.par y.1 (List.of_mem_zip (show (y.1, y.2) ∈ ps.zip us from hy)).1
    exact hz.elim Or.inl fun z => Or.inr ⟨z, PySem.W.cellsFrom_some _ _ _ (Or.inl z)⟩
  apply codeAny_call_function hr.depth (kin _ _ lk) rfl S.co S.gen rfl (PySem.W.codeRec_of kin hcd)
  apply hbd
  apply wpAny_newFunctionEnv_cells S.kind kinds
  intro env he s1 x1
  subst he
  have I : Inv (cxOf CX P w K mg base N x (defScope st) f cdv A outer s H E) [] (start N vs) H s1 := inv_start S hr.hd e0 (len _ _ _ _ hsp) rv x1
  constructor
  · exact (e0.mod.nolimit.keeps old).keeps x1.toInCall.keep
  · apply codeAny_func
    apply wpAny_mono (ht.run [] s1 (start N vs) H _ I hq) ?_ (fun _ _ z => z)
    intro fl s' z
    cases fl with
    | brk => exact z.elim fun _ z => z.elim fun _ z => z.2.elim
    | cont => exact z.elim fun _ z => z.elim fun _ z => z.2.elim
    | next =>
      obtain ⟨σ', H', J, q⟩ := z
      exact ⟨.non, H', J.os, J.bare, J.base, J.hok, rfl, q⟩
    | ret u =>
      obtain ⟨v, σ', H', J, r, q⟩ := z
      exact ⟨v, H', J.os, J.bare, J.base, J.hok, r, q⟩
theorem DefLX.c (D : DefLX (L2.CX P w) P w K mg base x k ps sp) : DefC P w K mg base x k ps sp := by
  obtain ⟨f, fd, a, b, c, d, _⟩ := D
  exact ⟨f, fd, a, b, c, d⟩
end
section
variable {CX : CXT} {X : Cx} {x : Str} {k : Nat} {ps ks : List Str} {sp : Sp} {E : XK} {p pos : Pos} {e : Expr} {es : List Expr} {t tk : TA} {st : Stmt} {kws : List Keyword} {g : List Value → List Value} {gV : List V → List V}
theorem pe_dfGX (D : DefGX CX X.prog X.w X.K X.mg X.base x k ps sp) (gd : X.A.guards = some []) (hr : Room k X.A) (hx : Passes CX X E) (ha : PA X (e :: es) t) (hg : Gl X x := by rfl) (hdb : (x == ("__debug__" : Str)) = false := by decide)
    (hs : starEach (e :: es) X.env = (false, eval e X.env) :: starEach es X.env := by rfl) (hp : (backTo pos (starEach es X.env)).any (·.1) = false := by rfl) : PE X (.Call (.Name x p) (e :: es) [] pos) (tCall sp [] E t) := by
  obtain ⟨f, fd, F, hm, hk, hb, _⟩ := D
  constructor
  intro pins s σ H Q I h
  apply wpAny_Call_Name_kw (ld_glob I hg hm ?_ hdb)
  refine PySem.W.callWith_K (h₀ := X.base) I.ok.mod.kin hk (thn (ha.run pos pins s σ H _ I h) ?_) hs hp
  rintro us s1 ⟨vs, H1, I1, r, q⟩
  refine ⟨I1.kIn, ?_⟩
  rw [List.append_nil] at q
  have hl : us.length = ps.length := by
    rw [← r.length]
    exact F.len _ _ _ _ q
  have bd := hb s1 us I1.kIn (by rw [List.append_nil]; exact hl)
  rw [List.append_nil] at bd
  have run := F.run X.A X.stack s1 H1 ⟨us, []⟩ us vs Q E gd hr I1.env0 bd r q
  refine wpAny_call (codeAny_mono run ?_)
  intro res s2 z
  match res, z with
  | .error er, z => exact hx pins σ H1 s1 er s2 I1 z
  | .ok (.ret u), z => exact I1.after z
  | .ok .next, z => exact z.elim
  | .ok .brk, z => exact z.elim
  | .ok .cont, z => exact z.elim
theorem pe_dfKX (D : DefLX CX X.prog X.w X.K X.mg X.base x k ps sp) (T : TopD X.K X.mg x st)
    (hb : ∀ (kV doc pm : Value) (an : Option Addr) (cdv ct : Value) (us : List Value), us.length = ks.length → bindArgs (PySem.W.fnOf x x (defArgs st) (defBody st) (defScope st) .none kV doc pm an cdv ct) ⟨[], ks.zip us⟩ = pure (ps.zip (g us)))
    (hrel : ∀ {vs : List V} {us : List Value}, Vals vs us → vs.length = ks.length → Vals (gV vs) (g us)) (hr : Room k X.A) (hx : Passes CX X E) (hkw : PK X kws tk) (hg : Gl X x := by rfl)
    (hall : (backToKw pos (keywordEach kws X.env)).all (·.1.isSome) = true := by rfl) (hks : (backToKw pos (keywordEach kws X.env)).filterMap (·.1) = ks := by rfl) (hdb : (x == ("__debug__" : Str)) = false := by decide)
    (hpl : ((backTo pos (starEach [] X.env)).any (·.1) || (backToKw pos (keywordEach kws X.env)).any (·.1.isNone)) = false := by rfl) : PE X (.Call (.Name x p) [] kws pos) (tCallKw ks.length gV sp E tk) := by
  obtain ⟨f, fd, F, hm, hk, _, oc, od, osl, lk⟩ := D
  obtain ⟨f', fd', FD, hm'⟩ := T
  cases hm.symm.trans hm'
  obtain ⟨oc', od', dV, kV, doc, pm, an, cdv, ct, osl', rfl, lk', _, hD, _⟩ := FD.ex
  cases lk.symm.trans lk'
  rcases hD with ⟨_, rfl⟩ | ⟨e, _⟩
  · constructor
    intro pins s σ H Q I h
    apply wpAny_Call_Name_kw (ld_glob I hg hm ?_ hdb)
    apply PySem.W.callWith_KW0 (h₀ := X.base) I.ok.mod.kin hk hall ?_ hpl
    refine thn (hkw.run pos pins s σ H _ I h) ?_
    rintro ws s2 ⟨zs, H2, I2, rz, l, q⟩
    refine ⟨I2.kIn, ?_⟩
    rw [hks]
    have bd := BindsTo.of_eq (s := s2) (hb kV doc pm an cdv ct ws (rz.length.symm.trans l))
    have run := F.run X.A X.stack s2 H2 ⟨[], ks.zip ws⟩ (g ws) (gV zs) Q E hr I2.env0 bd (hrel rz l) q
    refine wpAny_call (codeAny_mono run ?_)
    intro res s3 z
    match res, z with
    | .error er, z => exact hx pins σ H2 s2 er s3 I2 z
    | .ok (.ret u), z => exact I2.after z
    | .ok .next, z => exact z.elim
    | .ok .brk, z => exact z.elim
    | .ok .cont, z => exact z.elim
  · exact absurd rfl e
end
/-! #### the end: tables, and a law whose def shows lists -/
section
open Classical in
theorem law_callTG {P : Program} {w : World} {K : PySem.W.Frag} {mg mb : Str → Option Value} {CX : CXT} {k : Nat} {fa a : Addr} {fd : FuncData} {x : Str} {sp : Sp} {s₁ : Shared} {vs : List Value} {ns : List Int} {cs : List (Addr × Addr)}
    (KX : K.In s₁.heap) (hns : s₁.heap.Ns mainGlobals mg) (hb : s₁.heap.Ns builtinsNs mb) (hbb : ∀ x : Str, x ≠ "__name__" → mb x = bootBuiltins x) (hlim : s₁.heap.NoLimit) (hg : s₁.gens = #[])
    (tabs : ∀ p ∈ cs, s₁.heap.get? p.2 = some { cls := .none, data := .fields #[] } ∧ K.lookup p.2 = none ∧ PySem.W.CodeHd s₁.heap p.1 p.2)
    (hbm : ∃ (bm : Addr) (ob : Obj), mg "__builtins__" = some (.ref bm) ∧ bm ≠ builtinsNs ∧ s₁.heap.get? bm = some ob ∧ ob.cls = .type "module" ∧ ob.dict = some builtinsNs ∧ ob.data = .plain)
    (ha : s₁.heap.get? a = some { cls := .type "list", data := .seq vs.toArray }) (hi : IntsAre vs ns) (hl : ns.length ≤ sizeLine) (hr : Room k callerA)
    (F : ∀ base : Heap, K.In base → base.Ns mainGlobals mg → (∀ p ∈ cs, TabB base mg p.1 p.2) → FnG P w K mg base CX k fa fd [x] sp) (hbind : ∀ (s : Shared) (u : Value), BindsTo s fd ⟨[u], []⟩ [(x, u)])
    (hsp : ∀ H : Hp, (∀ p ∈ cs, H p.2 = some (.tbl #[])) → SqL K H a (ns.map V.int) → sp [.ref a] H (fun v _ => v = .bl true) fun _ _ _ => False)
    (hCX : ∀ H e s', CX [] H s₁ (fun _ _ _ => False) e s' → False) :
    codeAny (model P w) callerA (.call (.ref fa) ⟨[.ref a], []⟩) (fun r s' => r = .ok (.ret (.bool true)) ∧ OldK s₁.heap s'.heap ∧ s'.os = s₁.os ∧ AllBare s'.gens) s₁ := by
  obtain ⟨H, hH⟩ : ∃ H : Hp, H = fun b => if b = a ∧ K.lookup a = none then some (.frz { cls := .type "list", data := .seq vs.toArray } (.lst (ns.map V.int))) else if b ∈ cs.map (·.2) then some (.tbl #[]) else none := ⟨_, rfl⟩
  have isT : ∀ b, b ∈ cs.map (·.2) → s₁.heap.get? b = some { cls := .none, data := .fields #[] } ∧ K.lookup b = none := by
    intro b hb
    obtain ⟨p, hp, rfl⟩ := List.mem_map.mp hb
    exact ⟨(tabs p hp).1, (tabs p hp).2.1⟩
  have aT : a ∉ cs.map (·.2) := by
    intro z
    have e := (isT a z).1.symm.trans ha
    cases e
  have at_ : ∀ b u, H b = some u → (b = a ∧ K.lookup a = none ∧ u = .frz { cls := .type "list", data := .seq vs.toArray } (.lst (ns.map V.int))) ∨ (b ∈ cs.map (·.2) ∧ u = .tbl #[]) := by
    intro b u e
    rw [hH] at e
    by_cases c : b = a ∧ K.lookup a = none
    · have e' := (if_pos c).symm.trans e
      cases e'
      exact .inl ⟨c.1, c.2, rfl⟩
    · have e' := (if_neg c).symm.trans e
      by_cases d : b ∈ cs.map (·.2)
      · have e2 := (if_pos d).symm.trans e'
        cases e2
        exact .inr ⟨d, rfl⟩
      · have e2 := (if_neg d).symm.trans e'
        cases e2
  have tT : ∀ p ∈ cs, H p.2 = some (.tbl #[]) := by
    intro p hp
    have m : p.2 ∈ cs.map (·.2) := List.mem_map.mpr ⟨p, hp, rfl⟩
    have ne : p.2 ≠ a := fun z => aT (z ▸ m)
    rw [hH]
    exact (if_neg fun z => ne z.1).trans (if_pos m)
  have nums := vals_ints hi
  have many := hi.length
  have seq : SqL K H a (ns.map V.int) := by
    rcases h : K.lookup a with _ | o
    · refine .inl (.inr ⟨{ cls := .type "list", data := .seq vs.toArray }, ?_⟩)
      rw [hH]
      exact if_pos ⟨rfl, h⟩
    · have e := (KX a o h).symm.trans ha
      cases e
      exact .inr ⟨_, vs.toArray, _, h, rfl, rfl, rfl, by rw [List.size_toArray, many]; exact hl, by simpa using nums⟩
  have hok : HOk P w H s₁.heap := by
    intro b u e
    rcases at_ b u e with ⟨rfl, _, rfl⟩ | ⟨m, rfl⟩
    · exact ⟨ha, by rw [List.length_map]; exact hl, vs, _, nums, ha⟩
    · exact (isT b m).1
  have keep : ∀ {b o}, s₁.heap.get? b = some o → H b = none → (hidT s₁.heap H).get? b = some o := fun e n => hidT_get e n
  -- what is neither the script nor a table stays known
  have free : ∀ {b : Addr} {o : Obj}, s₁.heap.get? b = some o → (∀ us n, o.data ≠ .seq us n) → o.data ≠ .fields #[] → H b = none := by
    intro b o e n1 n2
    rcases h : H b with _ | u
    · rfl
    · rcases at_ b u h with ⟨rfl, _, _⟩ | ⟨m, _⟩
      · cases ha.symm.trans e
        exact (n1 _ _ rfl).elim
      · cases (isT b m).1.symm.trans e
        exact (n2 rfl).elim
  have nsB : ∀ {b m}, s₁.heap.Ns b m → (hidT s₁.heap H).Ns b m := by
    rintro b m ⟨o, es, ep, e, d, r⟩
    exact ⟨o, es, ep, keep e (free e (by rw [d]; intro _ _ z; cases z) (by rw [d]; intro z; cases z)), d, r⟩
  have kinB : K.In (hidT s₁.heap H) := by
    intro b o e
    apply keep (KX b o e)
    rcases h : H b with _ | u
    · rfl
    · rcases at_ b u h with ⟨rfl, n, _⟩ | ⟨m, _⟩
      · cases n.symm.trans e
      · cases (isT b m).2.symm.trans e
  have TB : ∀ p ∈ cs, TabB (hidT s₁.heap H) mg p.1 p.2 := by
    intro p hp
    obtain ⟨e1, _, e3⟩ := tabs p hp
    refine ⟨?_, ?_, ?_⟩
    · obtain ⟨o, us, file, tf, flags, tg, inF, text, tt, c1, c2, c3, c4, rest⟩ := e3
      refine ⟨o, us, file, tf, flags, tg, inF, text, tt, keep c1 (free c1 (by rw [c3]; intro _ _ z; cases z) (by
        rw [c3]
        intro z
        cases z
        simp at c4)), c2, c3, c4, rest⟩
    · obtain ⟨bm, ob, b1, b2, b3, b4, b5, b6⟩ := hbm
      refine ⟨bm, ob, b1, b2, fun z => ?_, fun z => ?_, keep b3 (free b3 (by rw [b6]; intro _ _ z; cases z) (by rw [b6]; intro z; cases z)), b4, b5, b6⟩
      · obtain ⟨o, es, ep, e, d, _⟩ := hns
        rw [z, e] at b3
        cases b3
        rw [d] at b6
        cases b6
      · rw [z, e1] at b3
        cases b3
        cases b6
    · intro z
      obtain ⟨o, es, ep, e, d, _⟩ := hns
      rw [z, e1] at e
      cases e
      cases d
  obtain ⟨mc, lim1, lim2⟩ := hlim
  have md : Mod K mg (hidT s₁.heap H) := ⟨kinB, nsB hns, ⟨mb, nsB hb, hbb⟩, ⟨mc, nsB lim1, lim2⟩⟩
  have e0 : Env0 P w K mg (hidT s₁.heap H) callerA [] s₁ H := ⟨rfl, md, fun b o e => of_hidT e, Nat.le_of_eq (hidT_size _ _), trivial, fun b z => (by cases z), hok, .of_eq hg⟩
  have run := (F _ kinB (nsB hns) TB).run callerA [] s₁ H ⟨[.ref a], []⟩ [.ref a] [.ref a] _ _ rfl hr e0 (hbind s₁ (.ref a)) (.cons rfl .nil) (hsp H tT seq)
  refine codeAny_mono run ?_
  intro r s' z
  match r, z with
  | .error e, z => exact (hCX H e s' z).elim
  | .ok .next, z => exact z.elim
  | .ok .brk, z => exact z.elim
  | .ok .cont, z => exact z.elim
  | .ok (.ret u), z =>
    obtain ⟨v, H', os, bare, un, hok', rv, q⟩ := z
    cases (show v = .bl true from q)
    cases (show u = Value.bool true from rv)
    have stay : ∀ b o, b ∉ cs.map (·.2) → s₁.heap.get? b = some o → s'.heap.get? b = some o := by
      intro b o n e
      rcases h : H b with _ | u
      · exact un.keep b o e h (fun z => by cases z) (fun z => by cases z)
      · rcases at_ b u h with ⟨rfl, _, rfl⟩ | ⟨m, _⟩
        · have z1 := (hok b _ h).1
          have z2 := (hok' b _ (un.frzs b _ _ h)).1
          cases z1.symm.trans e
          exact z2
        · exact (n m).elim
    have grow : ∀ p ∈ cs, ∃ more : Array Value, s'.heap.get? p.2 = some { cls := .none, data := .fields more } := by
      intro p hp
      obtain ⟨more, z⟩ := un.tbls p.2 #[] (tT p hp)
      exact ⟨_, hok' p.2 _ z⟩
    refine ⟨rfl, ⟨fun b o e => ?_, fun b o e => ?_⟩, os, bare⟩
    · by_cases n : b ∈ cs.map (·.2)
      · obtain ⟨p, hp, rfl⟩ := List.mem_map.mp n
        obtain ⟨more, g⟩ := grow p hp
        obtain ⟨t1, _, t3⟩ := tabs p hp
        cases t1.symm.trans e
        exact .inr (.inl ⟨(t3.tab t1).isCodeTable, rfl, #[], more, rfl, by rw [Array.empty_append]; exact g⟩)
      · exact .inl (stay b o n e)
    · by_cases n : b ∈ cs.map (·.2)
      · obtain ⟨p, hp, rfl⟩ := List.mem_map.mp n
        obtain ⟨more, g⟩ := grow p hp
        exact ⟨_, g⟩
      · exact ⟨o, stay b o n e⟩
end
theorem walk_ofTG {l : PySem.W.OpenLaw} {n k : Nat} {q : Program} {loose : List Str} {XP : (Str → Option Value) → Heap → Prop} {YP : World → Heap → Prop} {d : DefRec} {CX : World → CXT} {x : Str}
    (hn : l.most = some n) (hn2 : n ≤ sizeLine) (hdf : d.params.defaults = []) (hr : Room k callerA)
    (F : ∀ (w : World) (mg : Str → Option Value) (fa : Addr) (h : Heap), YP w h → h.Ns mainGlobals mg → mg d.name = some (.ref fa) → TabsOf q h → ∃ (K : PySem.W.Frag) (fd : FuncData) (cs : List (Addr × Addr)) (sp : Sp), K.In h ∧
      (∀ p ∈ cs, h.get? p.2 = some { cls := .none, data := .fields #[] } ∧ K.lookup p.2 = none ∧ PySem.W.CodeHd h p.1 p.2) ∧ (∀ (s : Shared) (u : Value), BindsTo s fd ⟨[u], []⟩ [(x, u)]) ∧
      (∀ (H : Hp) (a : Addr) (ns : List Int), ns.length ≤ n → (∀ p ∈ cs, H p.2 = some (.tbl #[])) → SqL K H a (ns.map V.int) → sp [.ref a] H (fun v _ => v = .bl true) fun _ _ _ => False) ∧
      ∀ base : Heap, K.In base → base.Ns mainGlobals mg → (∀ p ∈ cs, TabB base mg p.1 p.2) → FnG l.prog w K mg base (CX w) k fa fd [x] sp)
    (hCX : ∀ (w : World) (H : Hp) (s : Shared) (e : Value) (s' : Shared), CX w [] H s (fun _ _ _ => False) e s' → False) :
    PySem.W.WalkO q loose XP YP l.row.toRowW d [] (fun f vs => PySem.call f vs) := by
  apply Att.attach_call hn hdf
  intro w s₀ s₁ mg mb fa o pm cd doc a vs ns G Y ho hd hcd hmg hobj hints hlen hg
  obtain ⟨K, fd, cs, sp, kin, tabs, hb, hsp, hF⟩ := F w mg fa _ Y G.T.g hmg fun K x c P d X hr ht => PySem.W.tab_of G.T X hr ht
  apply law_callTG kin G.T.g G.T.b G.T.builtins G.T.nolimit hg tabs G.T.bmain hobj hints (Nat.le_trans hlen hn2) hr hF hb
  · exact fun H t seq => hsp H a ns hlen t seq
  · exact fun H e s' z => hCX w H s₁ e s' z
end SH
end

section
namespace SH
open PySem PySem.Spec PyProof.Rows L2
/-- two defs' tables are two -/
def tabNeB (K : PySem.W.Frag) (x y : Str) : Bool := match PySem.W.tabIn K x, PySem.W.tabIn K y with
  | some (_, P), some (_, P') => decide (P ≠ P')
  | _, _ => false
theorem tabNeB_ok {K : PySem.W.Frag} {x y : Str} {c P c' P' : Addr} (h : tabNeB K x y = true) (e : PySem.W.tabIn K x = some (c, P)) (e' : PySem.W.tabIn K y = some (c', P')) : P ≠ P' := by
  unfold tabNeB at h
  rw [e, e'] at h
  exact of_decide_eq_true h
/-! ### slices at a place -/
theorem cutV_take {xs : List V} {n : Nat} : cutV xs none (some (n : Int)) = xs.take n := by
  unfold cutV
  rw [HT.sIx_none, HT.sIx_nat, List.drop_zero, Nat.sub_zero]
  rcases Nat.le_total n xs.length with h | h
  · rw [Nat.min_eq_left h]
  · rw [Nat.min_eq_right h, List.take_of_length_le (Nat.le_refl _), List.take_of_length_le h]
theorem cutV_drop {xs : List V} {n : Nat} : cutV xs (some (n : Int)) none = xs.drop n := by
  unfold cutV
  rw [HT.sIx_none, HT.sIx_nat]
  rcases Nat.le_total n xs.length with h | h
  · rw [Nat.min_eq_left h]
    exact List.take_of_length_le (by rw [List.length_drop]; exact Nat.le_refl _)
  · rw [Nat.min_eq_right h, List.drop_of_length_le (Nat.le_refl _), List.drop_of_length_le h]
    exact List.take_of_length_le (Nat.zero_le _)
theorem hu65_of {A : Around} {k : Nat} (hr : Room k A) : A.units + 65 < cLine := by have := hr.un; omega
theorem op_notInDK {X : Cx} {K : PySem.W.Frag} (hK : X.K = K) (hu : X.A.units + 65 < cLine) : OpR X (compareOp .NotIn) (rNotInD K) := by subst hK; exact op_notInD hu
end SH
end

section
namespace SH
open PySem PySem.Spec PyProof.Rows L2 TL StX SkE
/-! ### texts -/
theorem tl_len (z : Str) : z.length = (tl z).length := len_tl z
section
variable {K : PySem.W.Frag} {σ : L2.St} {H : Hp} {Q : VK} {z y : Str} {te to ta : TE} {gt : TG} {tt : TT}
/-! #### comprehensions over a text's signs -/
def lcS (x : V) (H : Hp) (g : TG) (tt : TT) (te : TE) (ws : List Nat) (σ : L2.St) (Q : VK) : Prop := ∃ z, x = .str z ∧ lcJ g tt te ws σ Q (Its z) H
theorem g_lcS {ws : List Nat} (q : to σ H fun x H1 => lcS x H1 gt tt te ws σ Q) : tLc (iStr to) gt tt te ws σ H Q := q
theorem lc_sign {g : TG} {tt : TT} {te : TE} {vs : List Nat} {H1 : Hp} {D : Addr} {Qd : Hp → Prop} (Pv : Nat → Hp → Prop) (h0 : Pv 0 (upd H1 D (.lst [])))
    (hs : ∀ i c H, z.cps[i]? = some c → Pv i H → g (.str ⟨#[c]⟩) (wipe σ vs) H fun σ2 H2 => wipe σ2 vs = wipe σ vs ∧ tt σ2 H2 fun b H3 =>
      if b = true then te σ2 H3 fun y H4 => ∃ acc, H4 D = some (.lst acc) ∧ acc.length < sizeLine ∧ Pv (i + 1) (upd H4 D (.lst (acc ++ [y]))) else Pv (i + 1) H3) (hd : ∀ H, Pv z.cps.size H → Qd H) :
    ∃ W : Nat → Nat → Hp → Prop, (∃ m, W 0 m (upd H1 D (.lst []))) ∧ ∀ i m H, W i m H →
      ((Its z).stop i H ∧ Qd H) ∨ ((Its z).go i H ∧ ∃ Nx : Hp → Prop, (∀ H', Nx H' → ∃ m', m' < m ∧ W (i + 1) m' H') ∧ ∀ x H', (Its z).yld i H x H' → g x (wipe σ vs) H' fun σ2 H2 => wipe σ2 vs = wipe σ vs ∧ tt σ2 H2 fun b H3 =>
        if b = true then te σ2 H3 fun y H4 => ∃ acc, H4 D = some (.lst acc) ∧ acc.length < sizeLine ∧ Nx (upd H4 D (.lst (acc ++ [y]))) else Nx H3) := by
  refine ⟨fun i m H => m = z.cps.size - i ∧ i ≤ z.cps.size ∧ Pv i H, ⟨z.cps.size, by simp, Nat.zero_le _, h0⟩, ?_⟩
  rintro i m H ⟨rfl, hi, p⟩
  by_cases hlt : i < z.cps.size
  · refine .inr ⟨hlt, Pv (i + 1), fun H' p' => ⟨z.cps.size - (i + 1), by omega, rfl, hlt, p'⟩, fun x H' y => ?_⟩
    obtain ⟨e, c, hc, rfl⟩ := y
    subst e
    exact hs i c _ hc p
  · have e : i = z.cps.size := by omega
    subst e
    exact .inl ⟨Nat.le_refl _, hd _ p⟩
/-- a comprehension over a text's signs that changes nothing: the list of f c, where test c -/
theorem lcS_pure {ws : List Nat} {j : Nat} (f : Nat → V) (c : Nat → Bool) (hz : z.length ≤ 1000000) (hw : ∀ x, wipe ((wipe σ ws).set j (some x)) ws = wipe σ ws)
    (ht : ∀ k H1, k ∈ tl z → Off [] H H1 → ∀ (M : Bool → Hp → Prop), (∀ H2, Off [] H1 H2 → M (c k) H2) → tt ((wipe σ ws).set j (some (.str ⟨#[k]⟩))) H1 M)
    (he : ∀ k H1, k ∈ tl z → c k = true → Off [] H H1 → ∀ (M : VK), (∀ H2, Off [] H1 H2 → M (f k) H2) → te ((wipe σ ws).set j (some (.str ⟨#[k]⟩))) H1 M)
    (q : ∀ D H1, H D = none → Off [] H H1 → H1 D = some (.lst (((tl z).filter c).map f)) → Q (.ref D) H1) : lcS (.str z) H (gName j) tt te ws σ Q := by
  refine ⟨z, rfl, fun D hD => lc_sign (z := z) (fun i H1 => Off [] H H1 ∧ H1 D = some (.lst ((((tl z).take i).filter c).map f))) ⟨.new hD, by simp [upd_same]⟩ (fun i k H1 hi p => ?_) (fun H1 p => q D H1 hD p.1 ?_)⟩
  · have hk : (tl z)[i]? = some k := by
      rw [← hi]
      exact Array.getElem?_toList ..
    have hm : k ∈ tl z := List.mem_of_getElem? hk
    have hi' : i < (tl z).length := (List.getElem?_eq_some_iff.mp hk).1
    have tk : (tl z).take (i + 1) = (tl z).take i ++ [k] := by rw [List.take_add_one, hk]; rfl
    have hl := len_tl z
    show wipe ((wipe σ ws).set j (some (.str ⟨#[k]⟩))) ws = wipe σ ws ∧ _
    refine ⟨hw _, ht k H1 hm p.1 _ fun H2 o2 => ?_⟩
    have p2 := p.1.trans o2
    have d2 := o2.at nin_nil p.2
    cases hc : c k with
    | false =>
      refine ⟨p2, ?_⟩
      rw [tk, List.filter_append, List.map_append]
      simp [hc, d2]
    | true =>
      show te _ H2 _
      refine he k H2 hm hc p2 _ fun H3 o3 => ?_
      have d3 := o3.at nin_nil d2
      refine ⟨_, d3, ?_, ?_, ?_⟩
      · rw [List.length_map, sizeLine_eq]
        have := List.length_filter_le c ((tl z).take i)
        rw [List.length_take] at this
        omega
      · exact (p2.trans o3).mut hD
      · rw [upd_same, tk, List.filter_append, List.map_append]
        simp [hc]
  · rw [p.2]
    have : (tl z).take z.cps.size = tl z := List.take_of_length_le (by simp [tl])
    rw [this]
/-! #### of texts -/
def rLenS : List V → Hp → VK → Prop := fun xs H Q => ∃ z, xs = [V.str z] ∧ z.length ≤ sizeLine ∧ Q (.int ((z.length : Nat) : Int)) H
theorem c_lenS {X : Cx} : CallR X (.builtin "len") rLenS := by
  intro pins s σ H xs us Q I r h
  obtain ⟨z, e, hz, q⟩ := h
  exact call_len pins s σ H xs us Q I r ⟨.str z, z.length, e, ⟨hz, rfl⟩, q⟩
theorem g_lenS (h : z.length ≤ sizeLine) (q : Q (.int ((z.length : Nat) : Int)) H) : rLenS [.str z] H Q := ⟨z, rfl, h, q⟩
theorem g_slS {lo hi : Option Int} (h : z.length ≤ sizeLine) (q : Q (.str (cutS z lo hi)) H) : rSlS (.str z) lo hi H Q := ⟨z, rfl, h, q⟩
theorem g_ixS {i : Int} {c : Nat} (h : z.length ≤ sizeLine) (e : atI (tl z) i = some c) (q : Q (.str ⟨#[c]⟩) H) : rIxS (.str z) (.int i) H Q := ⟨z, i, c, rfl, rfl, h, e, q⟩
def rLeS : R2 := fun x y H Q => ∃ i j, x = .str i ∧ y = .str j ∧ Q (.bl (!decide (j.cps.toList < i.cps.toList))) H
theorem op_leS {X : Cx} : OpR X (compareOp .LtE) rLeS := op_le_str
theorem g_leS (q : Q (.bl (!decide (tl y < tl z))) H) : rLeS (.str z) (.str y) H Q := ⟨z, y, rfl, rfl, q⟩
def rNiS : R2 := fun x y H Q => ∃ (c : Nat) (z : Str), x = .str ⟨#[c]⟩ ∧ y = .str z ∧ Q (.bl (!decide (c ∈ z.cps.toList))) H
theorem op_niS {X : Cx} : OpR X (compareOp .NotIn) rNiS := op_notIn_sign
theorem g_niS {c : Nat} (q : Q (.bl (!decide (c ∈ tl z))) H) : rNiS (.str ⟨#[c]⟩) (.str z) H Q := ⟨c, z, rfl, rfl, q⟩
theorem g_tM1 {r : V → List V → Hp → VK → Prop} (q : to σ H fun x H1 => (∃ a, x = .str a) ∧ te σ H1 fun y H2 => r x [y] H2 Q) : tM1 r to te σ H Q := q
theorem g_isStr {M : Prop} (q : M) : (∃ a, V.str z = .str a) ∧ M := ⟨⟨z, rfl⟩, q⟩
def rSplit : V → List V → Hp → VK → Prop := fun x xs H Q => ∃ a b, x = .str a ∧ xs = [.str b] ∧ (b.length == 0) = false ∧ a.length + 2 ≤ sizeLine ∧ rNewStrs (Txt.split a b) H Q
def rPartn : V → List V → Hp → VK → Prop := fun x xs H Q => ∃ a b, x = .str a ∧ xs = [.str b] ∧ (b.length == 0) = false ∧ a.length ≤ sizeLine ∧ ∀ p, H p = none → Q (.ref p) (upd H p (.tup [.str (Txt.partition a b).1, .str (Txt.partition a b).2.1, .str (Txt.partition a b).2.2]))
def rJoin (K : PySem.W.Frag) : V → List V → Hp → VK → Prop := fun x xs H Q => ∃ a p, ∃ ys : List Str, x = .str a ∧ xs = [.ref p] ∧ (SqL K H p (ys.map V.str) ∨ SqT K H p (ys.map V.str)) ∧ (ys.map (·.length)).sum + ys.length * a.length ≤ 16777216 ∧ Q (.str (Txt.join a ys)) H
theorem g_split (hy : (y.length == 0) = false) (hz : z.length + 2 ≤ sizeLine) (q : ∀ p, H p = none → Q (.ref p) (upd H p (.lst ((Txt.split z y).map V.str)))) : rSplit (.str z) [.str y] H Q := ⟨z, y, rfl, rfl, hy, hz, q⟩
theorem g_partn (hy : (y.length == 0) = false) (hz : z.length ≤ sizeLine) (q : ∀ p, H p = none → Q (.ref p) (upd H p (.tup [.str (Txt.partition z y).1, .str (Txt.partition z y).2.1, .str (Txt.partition z y).2.2]))) : rPartn (.str z) [.str y] H Q := ⟨z, y, rfl, rfl, hy, hz, q⟩
theorem g_join {p : Addr} {ys : List Str} (h : SqL K H p (ys.map V.str)) (hz : (ys.map (·.length)).sum + ys.length * z.length ≤ 16777216) (q : Q (.str (Txt.join z ys)) H) : rJoin K (.str z) [.ref p] H Q := ⟨z, p, ys, rfl, rfl, .inl h, hz, q⟩
theorem pe_splitS {X : Cx} {o e : Expr} {apos pos : Pos} (ho : PE X o to) (he : PE X e te) (hs : starEach [e] X.env = [(false, eval e X.env)] := by rfl) (hbase : attributeBase o "split" X.env (eval o X.env) = eval o X.env := by rfl) (hline : (apos.endLine == pos.line) = true := by rfl) :
    PE X (.Call (.Attribute o "split" apos) [e] [] pos) (tM1 rSplit to te) := pe_split ho he hs hbase hline
theorem pe_partnS {X : Cx} {o e : Expr} {apos pos : Pos} (ho : PE X o to) (he : PE X e te) (hs : starEach [e] X.env = [(false, eval e X.env)] := by rfl) (hbase : attributeBase o "partition" X.env (eval o X.env) = eval o X.env := by rfl) (hline : (apos.endLine == pos.line) = true := by rfl) :
    PE X (.Call (.Attribute o "partition" apos) [e] [] pos) (tM1 rPartn to te) := pe_partition ho he hs hbase hline
theorem pe_joinS {X : Cx} {o e : Expr} {apos pos : Pos} (hK : X.K = K) (ho : PE X o to) (he : PE X e te) (hs : starEach [e] X.env = [(false, eval e X.env)] := by rfl) (hbase : attributeBase o "join" X.env (eval o X.env) = eval o X.env := by rfl) (hline : (apos.endLine == pos.line) = true := by rfl) :
    PE X (.Call (.Attribute o "join" apos) [e] [] pos) (tM1 (rJoin K) to te) := by
  subst hK
  exact pe_join ho he hs hbase hline
/-- int(text) -/
def rIntS : List V → Hp → VK → Prop := fun xs H Q => ∃ a n, xs = [.str a] ∧ PySem.intText? a = some n ∧ a.length ≤ 640 ∧ Q (.int n) H
theorem c_intS {X : Cx} : CallR X (.type "int") rIntS := call_int_str
theorem g_intS {n : Int} (e : PySem.intText? z = some n) (h : z.length ≤ 640) (q : Q (.int n) H) : rIntS [.str z] H Q := ⟨z, n, rfl, e, h, q⟩
/-- str(x), x an int or a text -/
def strV : V → Str
  | .int i => toString i
  | .str z => z
  | _ => Str.empty
def rStr : List V → Hp → VK → Prop := fun xs H Q => (∃ i : Int, xs = [.int i] ∧ i.natAbs.log2 < 1920 ∧ Q (.str (toString i)) H) ∨ ∃ a, xs = [.str a] ∧ Q (.str a) H
theorem c_strA {X : Cx} : CallR X (.type "str") rStr := by
  intro pins s σ H xs us Q I r h
  rcases h with ⟨i, e, h1, q⟩ | ⟨a, e, q⟩
  · exact call_str_int pins s σ H xs us Q I r ⟨i, e, h1, q⟩
  · exact call_str_str pins s σ H xs us Q I r ⟨a, e, q⟩
theorem log_ok {i : Int} (h0 : -(10 ^ 30) ≤ i) (h1 : i ≤ 10 ^ 30) : i.natAbs.log2 < 1920 := by
  by_cases z : i.natAbs = 0
  · rw [z]
    decide
  · rw [Nat.log2_lt z]
    have : i.natAbs ≤ 10 ^ 30 := by omega
    exact Nat.lt_of_le_of_lt this (Nat.lt_of_lt_of_le (by decide +kernel : (10 : Nat) ^ 30 < 2 ^ 128) (Nat.pow_le_pow_right (by decide) (by decide)))
theorem g_strI {i : Int} (h : i.natAbs.log2 < 1920) (q : Q (.str (toString i)) H) : rStr [.int i] H Q := .inl ⟨i, rfl, h, q⟩
theorem g_strS (q : Q (.str z) H) : rStr [.str z] H Q := .inr ⟨z, rfl, q⟩
/-! #### (a, *xs) -/
theorem pa_starK {X : Cx} {e : Expr} {es : List Expr} {p : Pos} {t : TA} (hK : X.K = K) (he : PE X e te) (hr : PA X es t) (hs : starEach (.Starred e p :: es) X.env = (true, eval e X.env) :: starEach es X.env := by rfl) : PA X (.Starred e p :: es) (tStar K te t) := by
  subst hK
  exact pa_star he hr hs
theorem g_star {t : TA} {QA : List V → Hp → Prop} (q : te σ H fun x H1 => ∃ p xs, x = V.ref p ∧ (SqT K H1 p xs ∨ SqL K H1 p xs) ∧ t σ H1 fun ys H2 => QA (xs ++ ys) H2) : tStar K te t σ H QA := q
end
end SH
end

section
namespace SH
open PySem PySem.Spec PyProof.Rows L2
/-! ### data that nothing changes, as keys of a dict -/
/-- data that nothing changes: numbers, texts, tuples of such -/
def Fq (K : PySem.W.Frag) (H : Hp) (v : V) (d : PyData) : Prop := ∀ (S : List Addr) (H' : Hp), Off S H H' → Dp K H' v d
theorem Fq.dp {K : PySem.W.Frag} {H : Hp} {v : V} {d : PyData} (h : Fq K H v d) : Dp K H v d := h [] H (.refl _ _)
theorem Fq.off {K : PySem.W.Frag} {S : List Addr} {H H' : Hp} {v : V} {d : PyData} (h : Fq K H v d) (o : Off S H H') : Fq K H' v d := fun S' H'' o' => h (S ++ S') H'' ((o.mono fun a ha => List.mem_append_left _ ha).trans (o'.mono fun a ha => List.mem_append_right _ ha))
theorem Fq.int {K : PySem.W.Frag} {H : Hp} (i : Int) : Fq K H (.int i) (.int i) := fun _ _ _ => .int i
theorem Fq.str {K : PySem.W.Frag} {H : Hp} (z : Str) : Fq K H (.str z) (.str z) := fun _ _ _ => .str z
def FqL (K : PySem.W.Frag) (H : Hp) (vs : List V) (ds : List PyData) : Prop := Paired (Fq K H) vs ds
theorem FqL.off {K : PySem.W.Frag} {S : List Addr} {H H' : Hp} {vs : List V} {ds : List PyData} (h : FqL K H vs ds) (o : Off S H H') : FqL K H' vs ds := Paired.mapP h fun _ _ z => z.off o
theorem FqL.dp {K : PySem.W.Frag} {H : Hp} : ∀ {vs : List V} {ds : List PyData}, FqL K H vs ds → DpAll K H vs ds
  | _, _, .nil => .nil
  | _, _, .cons h t => .cons h.dp (FqL.dp t)
theorem Fq.tup {K : PySem.W.Frag} {H : Hp} {p : Addr} {vs : List V} {ds : List PyData} (h : H p = some (.tup vs)) (t : FqL K H vs ds) : Fq K H (.ref p) (.tuple ds) := fun _ _ o => .tup (.of (o.tups _ _ h)) (t.off o).dp
mutual
theorem nested_of {h : Heap} : ∀ (k : NestedKey) (u : Value) (as : List Addr), Reads h u k.data as → NestedIs h k u
  | .none, _, _, r => by
    cases r
    exact .none
  | .num i, _, _, r => by
    cases r
    exact .int _ _
  | .text x, _, _, r => by
    cases r
    exact .text _ _
  | .tup ks, _, _, r => by
    cases r with
    | tuple ho hc hd hr => exact .tup ho hc hd (nested_all ks _ _ hr)
theorem nested_all {h : Heap} : ∀ (ks : List NestedKey) (us : List Value) (as : List Addr), ReadsAll h us (NestedKey.datas ks) as → NestedAll h ks us
  | [], _, _, r => by
    cases r
    exact .nil
  | k :: ks, _, _, r => by
    cases r with
    | cons r1 r2 => exact .cons (nested_of k _ _ r1) (nested_all ks _ _ r2)
end
/-- the tuple at b is the key k -/
def NkA (K : PySem.W.Frag) (H : Hp) (b : Addr) (k : NestedKey) : Prop := Fq K H (.ref b) k.data ∧ k.depth ≤ 8
theorem NkA.off {K : PySem.W.Frag} {S : List Addr} {H H' : Hp} {b : Addr} {k : NestedKey} (h : NkA K H b k) (o : Off S H H') : NkA K H' b k := ⟨h.1.off o, h.2⟩
theorem NkA.is {X : Cx} {pins : List (Addr × Obj)} {σ : L2.St} {H : Hp} {s : Shared} {b : Addr} {k : NestedKey} (I : Inv X pins σ H s) (h : NkA X.K H b k) : (nestedKind X.prog X.w).is s.heap k b := by
  obtain ⟨as, r⟩ := Dp.reads I _ _ (.ref b) h.1.dp rfl
  exact ⟨nested_of _ _ _ r, h.2⟩
/-! ### a dict whose keys are such, each with True -/
def DN (P : Program) (w : World) (a : Addr) (xs : List (NestedKey × Addr)) : HO := .ext fun h => xs.length ≤ sizeLine ∧ (a == sysModules) = false ∧
  ∃ o es ep, h.get? a = some o ∧ o.ExactDict ∧ o.data = .dict es ep ∧ es.toList = (xs.map fun x => (x.1, x.2, Value.bool true)).map (entryOfKey (nestedKind P w)) ∧ (xs.map (·.1)).Nodup
def putN (xs : List (NestedKey × Addr)) (k : NestedKey) (b : Addr) : List (NestedKey × Addr) := if k ∈ xs.map (·.1) then xs else xs ++ [(k, b)]
def KeysN (K : PySem.W.Frag) (H : Hp) (xs : List (NestedKey × Addr)) : Prop := ∀ x ∈ xs, NkA K H x.2 x.1
theorem KeysN.off {K : PySem.W.Frag} {S : List Addr} {H H' : Hp} {xs : List (NestedKey × Addr)} (h : KeysN K H xs) (o : Off S H H') : KeysN K H' xs := fun x hx => (h x hx).off o
theorem KeysN.put {K : PySem.W.Frag} {H : Hp} {xs : List (NestedKey × Addr)} {k : NestedKey} {b : Addr} (h : KeysN K H xs) (hb : NkA K H b k) : KeysN K H (putN xs k b) := by
  unfold putN
  split
  · exact h
  · intro x hx
    rcases List.mem_append.mp hx with hx | hx
    · exact h x hx
    · rw [List.mem_singleton.mp hx]; exact hb
section
variable {P : Program} {w : World} {H : Hp} {h : Heap} {a : Addr} {xs : List (NestedKey × Addr)}
abbrev trip (xs : List (NestedKey × Addr)) : List (NestedKey × Addr × Value) := xs.map fun x => (x.1, x.2, Value.bool true)
theorem dn_new {o : Obj} {es : Array DictEntry} {ep : Nat} (z : xs.length ≤ sizeLine) (hd : (a == sysModules) = false) (ho : h.get? a = some o) (hx : o.ExactDict) (hdt : o.data = .dict es ep) (he : es.toList = (trip xs).map (entryOfKey (nestedKind P w))) (hn : (xs.map (·.1)).Nodup) : ObjOk P w H h a (DN P w a xs) :=
  ⟨⟨z, hd, o, es, ep, ho, hx, hdt, he, hn⟩, ⟨o, ho⟩, fun h1 h2 p k => by
    obtain ⟨z, hd, o, es, ep, ho, r⟩ := p
    exact ⟨z, hd, o, es, ep, k o ho, r⟩⟩
theorem atKey_trip (k : NestedKey) : (atKey (trip xs) k).isSome = decide (k ∈ xs.map (·.1)) := by
  rw [atKey, Option.isSome_map, Bool.eq_iff_iff, decide_eq_true_eq, List.find?_isSome]
  constructor
  · rintro ⟨x, hx, e⟩
    obtain ⟨y, hy, rfl⟩ := List.mem_map.mp hx
    exact List.mem_map.mpr ⟨y, hy, of_decide_eq_true e⟩
  · intro hm
    obtain ⟨y, hy, e⟩ := List.mem_map.mp hm
    exact ⟨_, List.mem_map.mpr ⟨y, hy, rfl⟩, decide_eq_true e⟩
theorem storedH_trip (k : NestedKey) (b : Addr) : storedH (trip xs) k b (.bool true) = trip (putN xs k b) := by
  unfold storedH putN
  rw [atKey_trip]
  by_cases c : k ∈ xs.map (·.1)
  · rw [if_pos (decide_eq_true c), if_pos c]
    have : ∀ x ∈ trip xs, putAt k (.bool true) x = x := fun x hx => by
      obtain ⟨y, hy, rfl⟩ := List.mem_map.mp hx
      unfold putAt
      split <;> rfl
    exact (List.map_congr_left this).trans (List.map_id _)
  · rw [if_neg (by simpa using c), if_neg c]
    unfold trip
    rw [List.map_append]
    rfl
theorem keys_trip : (trip xs).map (·.1) = xs.map (·.1) := by
  unfold trip
  rw [List.map_map]
  rfl
theorem putN_len (k : NestedKey) (b : Addr) : (putN xs k b).length ≤ xs.length + 1 := by
  unfold putN
  split
  · omega
  · rw [List.length_append]; exact Nat.le_refl _
end
section
variable {X : Cx} {pins : List (Addr × Obj)} {σ : L2.St} {H : Hp} {s : Shared} {a : Addr} {xs : List (NestedKey × Addr)}
theorem dn_of (I : Inv X pins σ H s) (e : Rd H a (DN X.prog X.w a xs)) (ks : KeysN X.K H xs) : xs.length ≤ sizeLine ∧ (a == sysModules) = false ∧ s.heap.DictOfH (nestedKind X.prog X.w) a (trip xs) := by
  have ok : ObjOk X.prog X.w H s.heap a (DN X.prog X.w a xs) := e.ok I.hok
  obtain ⟨⟨z, hd, o, es, ep, ho, hx, hdt, he, hn⟩, _, _⟩ := ok
  refine ⟨z, hd, o, es, ep, ho, hx, hdt, he, fun x hm => ?_, by rw [keys_trip]; exact hn⟩
  obtain ⟨y, hy, rfl⟩ := List.mem_map.mp hm
  exact (ks y hy).is I
/-- {} -/
def tDNewN (P : Program) (w : World) : TE := fun _ H Q => ∀ p, H p = none → Q (.ref p) (upd H p (DN P w p []))
theorem pe_dnewN {P : Program} {w : World} {pos : Pos} (hP : X.prog = P) (hw : X.w = w) : PE X (.Dict [] [] pos) (tDNewN P w) := by
  subst hP hw
  refine ⟨fun pins s σ H Q I h => ?_⟩
  refine wpAny_Dict_empty ⟨.ref s.heap.objs.size, _, I.laid (a := s.heap.objs.size) (o := DN X.prog X.w s.heap.objs.size []) (t' := s.toks) (fun _ _ q => Heap.get?_push_of_some _ q) (Nat.le_refl _) ?_, rfl, h _ (I.hok.fresh (Nat.le_refl _))⟩
  exact dn_new (Nat.zero_le _) (beq_eq_false_iff_ne.mpr (Ne.symm (Nat.ne_of_lt I.big))) (Heap.get?_push_size _ rfl) ⟨rfl, rfl, rfl⟩ rfl rfl List.nodup_nil
/-- d[b] = True -/
def rSetN (P : Program) (w : World) (K : PySem.W.Frag) : TSet := fun o i v H Q => ∃ a xs b k, o = .ref a ∧ i = .ref b ∧ v = .bl true ∧ H a = some (DN P w a xs) ∧ KeysN K H xs ∧ NkA K H b k ∧ xs.length < sizeLine ∧ Q (upd H a (DN P w a (putN xs k b)))
theorem set_dn {P : Program} {w : World} {K : PySem.W.Frag} (hP : X.prog = P) (hw : X.w = w) (hK : X.K = K) (hu : X.A.units + 64 < cLine) : PSet X (rSetN P w K) := by
  subst hP hw hK
  intro pins s σ H o i v ov iv u Q I ro ri rv h
  obtain ⟨a, xs, b, k, rfl, rfl, rfl, e, ks, kb, hl, q⟩ := h
  cases ro
  cases ri
  cases rv
  obtain ⟨z, hd, dd⟩ := dn_of I (.of e) ks
  have hz : (trip xs).length ≤ sizeLine := by rw [List.length_map]; exact z
  refine wpAny_setItem_heap (hsz := hz) (show X.A.units + 1 + 8 < cLine by omega) (kb.is I) dd fun h' dd' hs => ⟨_, ?_, q⟩
  rw [storedH_trip] at dd'
  obtain ⟨qo, es, ep, hq, h2, h3, h4, _, h5⟩ := dd'
  rw [keys_trip] at h5
  have hl2 : (putN xs k b).length ≤ sizeLine := by have := putN_len (xs := xs) k b; omega
  exact d_write I (by rw [e]; exact True.intro) hs ⟨qo, hq⟩ (dn_new hl2 hd hq h2 h3 h4 h5)
/-- b not in d -/
def rNotInN (P : Program) (w : World) (K : PySem.W.Frag) : R2 := fun x y H Q => ∃ a xs b k, x = .ref b ∧ y = .ref a ∧ H a = some (DN P w a xs) ∧ KeysN K H xs ∧ NkA K H b k ∧ Q (.bl (!decide (k ∈ xs.map (·.1)))) H
theorem op_notInN {P : Program} {w : World} {K : PySem.W.Frag} (hP : X.prog = P) (hw : X.w = w) (hK : X.K = K) (hu : X.A.units + 64 < cLine) : OpR X (compareOp .NotIn) (rNotInN P w K) := by
  subst hP hw hK
  intro pins s σ H x y v u Q I rx ry h
  obtain ⟨a, xs, b, k, rfl, rfl, e, ks, kb, q⟩ := h
  cases rx
  cases ry
  obtain ⟨z, hd, dd⟩ := dn_of I (.of e) ks
  refine wpAny_notIn_heap (show X.A.units + 1 + 8 < cLine by omega) (kb.is I) hd dd ?_
  rw [atKey_trip]
  exact ⟨.bl _, H, I.tok _, rfl, q⟩
/-- len(d) -/
def rLenN (P : Program) (w : World) (K : PySem.W.Frag) : List V → Hp → VK → Prop := fun vs H Q => ∃ a xs, vs = [.ref a] ∧ H a = some (DN P w a xs) ∧ KeysN K H xs ∧ Q (.int ((xs.length : Nat) : Int)) H
theorem c_lenN {P : Program} {w : World} {K : PySem.W.Frag} (hP : X.prog = P) (hw : X.w = w) (hK : X.K = K) : CallR X (.builtin "len") (rLenN P w K) := by
  subst hP hw hK
  intro pins s σ H vs us Q I r h
  obtain ⟨a, xs, rfl, e, ks, q⟩ := h
  cases r with
  | cons r1 r2 =>
    cases r2
    cases (show _ = Value.ref a from r1)
    obtain ⟨z, hd, dd⟩ := dn_of I (.of e) ks
    have l : (trip xs).length = xs.length := List.length_map ..
    refine call_len_dictH hd dd (by rw [l]; rw [sizeLine_eq] at z; omega) ?_
    rw [l]
    exact ⟨.int _, H, I.tok _, ⟨_, rfl⟩, q⟩
end
/-! #### for k in d -/
/-- the keys of the locked dict, in their order -/
def ItN (P : Program) (w : World) (d : Addr) (o : Obj) (xs : List (NestedKey × Addr)) : It :=
  ⟨fun i H => H d = some (.frz o (DN P w d xs)) ∧ i < xs.length, fun i H x H' => H' = H ∧ ∃ k q, xs[i]? = some (k, q) ∧ x = .ref q, fun i H => H d = some (.frz o (DN P w d xs)) ∧ xs.length ≤ i⟩
theorem frzN {X : Cx} {pins : List (Addr × Obj)} {σ : L2.St} {H : Hp} {s : Shared} {d : Addr} {o : Obj} {xs : List (NestedKey × Addr)} (I : Inv X pins σ H s) (h : H d = some (.frz o (DN X.prog X.w d xs))) :
    (d == sysModules) = false ∧ s.heap.get? d = some o ∧ o.ExactDict ∧ ∃ (es : Array DictEntry) (ep : Nat), o.data = .dict es ep ∧ es.size = xs.length ∧
      ∀ (i : Nat) (k : NestedKey) (q : Addr), xs[i]? = some (k, q) → ∃ en : DictEntry, es[i]? = some en ∧ en.key = .ref q := by
  obtain ⟨hd, ⟨z, hs, o', es, ep, ho, hx, hdt, he, _⟩, _, _⟩ := I.hok d _ h
  rw [hd] at ho
  cases ho
  refine ⟨hs, hd, hx, es, ep, hdt, ?_, fun i k q e => ?_⟩
  · have l1 : es.size = (trip xs).length := size_of_entries he
    rw [List.length_map] at l1
    exact l1
  · have q1 := entry_at he i
    rw [List.getElem?_map, e] at q1
    exact ⟨_, q1, rfl⟩
theorem turn_keysN {P : Program} {w : World} {K : PySem.W.Frag} {tg : Expr} {d : Addr} {o : Obj} {es : Array DictEntry} {ep : Nat} {xs : List (NestedKey × Addr)} (it : Addr) (hod : o.data = .dict es ep) : Turn P w K tg (ItN P w d o xs) [it] it (fun i h => h.IsKeyIter it d i xs.length ep) where
  mem := by simp
  obj := fun i h st b hb => by
    have e : b = it := by simpa using hb
    subst e
    obtain ⟨oi, e, c, dd⟩ := st
    exact ⟨oi, e, fun v z => by rw [dd] at z; cases z⟩
  keep := fun i h h' st k => st.at fun oi e => k it (by simp) oi e
  item := by
    intro X hP hw hK hc i pins s σ H E I hf st hg
    subst hP hw hK
    obtain ⟨hd, hi⟩ := hg
    obtain ⟨f0, f1, f2, f3, f4, f5⟩ := hf it (by simp)
    obtain ⟨hs, hgd, hx, es', ep', hdt, hsz, ent⟩ := frzN I hd
    obtain ⟨rfl, rfl⟩ := dict_ep hod hdt
    obtain ⟨⟨k, q⟩, hkv⟩ : ∃ p, xs[i]? = some p := ⟨xs[i], List.getElem?_eq_getElem hi⟩
    obtain ⟨en, hen, hkey⟩ := ent i k q hkv
    refine next_key_item st hgd hdt hsz hen fun h' st' sb => ?_
    have I1 : Inv X pins σ H { s with heap := h' } := I.turned (t' := s.toks) (fun b ob hb e => (sb.2 b hb).trans e) f0 f1 f3 f4 f5
    obtain ⟨oi, e, c, dd⟩ := id st'
    exact ⟨en.key, rfl, go_of (s := { s with heap := h' }) e c dd (by decide) ⟨.ref q, H, I1, hkey, ⟨rfl, k, q, hkv, rfl⟩, st', fun b hb => (hf b hb).1⟩⟩
  done := by
    intro X hP hw hK hc i pins s σ H E I hf st hg
    subst hP hw hK
    obtain ⟨hd, hi⟩ := hg
    obtain ⟨f0, f1, f2, f3, f4, f5⟩ := hf it (by simp)
    obtain ⟨hs, hgd, hx, es', ep', hdt, hsz, ent⟩ := frzN I hd
    obtain ⟨rfl, rfl⟩ := dict_ep hod hdt
    exact next_key_end (I.ok.hd hc) st hgd hdt hsz hi fun h' eb => ⟨rfl, I.turned (t' := s.toks) (fun b ob hb e => eb b ob hb e) f0 f1 f3 f4 f5⟩
  self := fun A i s Q E st h => by
    refine wpAny_pyIter_slot st.typeIs F.slot_dict_keyiterator_iter (wpAny_call_entry F.slot_dict_keyiterator_iter st.typeIs F.entry_dict_keyiterator_iter ?_ (F.args_dict_keyiterator_iter_1 _))
    show wpAny _ _ (ret (.ref it)) _ _ s
    exact wpAny_pure ⟨_, rfl, "dict_keyiterator", _, st.typeIs, F.slot_dict_keyiterator_next.lookup, h⟩
def iKeysN (P : Program) (w : World) (td : TE) : TI := fun σ H R => td σ H fun x H1 => ∃ d o xs, x = .ref d ∧ H1 d = some (.frz o (DN P w d xs)) ∧ R (ItN P w d o xs) H1
theorem pi_keysN {X : Cx} {P : Program} {w : World} {tg e : Expr} {td : TE} (hP : X.prog = P) (hw : X.w = w) (he : PE X e td) : PI X tg e (iKeysN P w td) := by
  subst hP hw
  refine ⟨fun pins s σ H R I h => ?_⟩
  refine thn (he.run pins s σ H _ I h) fun u s1 ⟨x, H1, I1, rx, d, o, xs, ex, hd, q⟩ => ?_
  subst ex
  obtain rfl : u = Value.ref d := rx
  obtain ⟨hs, hgd, hx, es, ep, hdt, hsz, ent⟩ := frzN I1 hd
  refine iter_keys hs hgd hx hdt (pi_one (tk := s1.toks) I1 _ (turn_keysN _ hdt) ⟨_, Heap.get?_push_size _ rfl, rfl, ?_⟩ q)
  rw [hsz] <;> rfl
end SH
end

section
namespace SH
open PySem PySem.Spec PyProof.Rows L2
/-! ### parts of tuples, ranges from a number on, statements under a lock -/
theorem sl_tupAK {X : Cx} {K : PySem.W.Frag} (hK : X.K = K) : SlR X (rSlA K) := by subst hK; exact sl_tupA
/-- (e, ..): the new tuple's object is told -/
def mkTF (xs : List V) (H : Hp) (Q : VK) : Prop := xs.length ≤ sizeLine ∧ ∀ (p : Addr) (o : Obj), H p = none → o.dict = none → Q (.ref p) (upd H p (.frz o (.tup xs)))
def tTupF (tA : TA) : TE := fun σ H Q => tA σ H fun xs H1 => mkTF xs H1 Q
theorem pe_tupF {X : Cx} {es : List Expr} {t : TA} {x1} {pos : Pos} (h : PA X es t) : PE X (.Tuple es x1 pos) (tTupF t) := by
  refine ⟨fun pins s σ H Q I hq => ?_⟩
  refine wpAny_Tuple_spliced (thn (h.run pos pins s σ H _ I hq) fun us s1 ⟨xs, H1, I1, r, z, q⟩ => ⟨by rw [← r.length]; exact z, ?_⟩)
  have hf : H1 s1.heap.objs.size = none := I1.hok.fresh (Nat.le_refl _)
  have new : (s1.heap.push { cls := .type "tuple", data := .seq us.toArray }).get? s1.heap.objs.size = some { cls := .type "tuple", data := .seq us.toArray } := Heap.get?_push_size _ rfl
  refine ⟨.ref s1.heap.objs.size, upd H1 s1.heap.objs.size (.frz { cls := .type "tuple", data := .seq us.toArray } (.tup xs)), I1.laid (t' := s1.toks) (fun b u e => Heap.get?_push_of_some _ e) (Nat.le_refl _) ?_, rfl, q _ _ hf rfl⟩
  exact ⟨new, z, us, r, IsTup.new _ _⟩
section
variable {K : PySem.W.Frag} {σ : L2.St} {H : Hp} {Q : VK} {a : Addr} {xs : List V} {tA : TA} {gt : TG} {s1 : TS} {N : L2.St → Hp → Prop} {R : VK} {Bk Ct : L2.St → Hp → Prop}
theorem g_tupFe {Q : VK} (q : tA σ H fun xs H1 => mkTF xs H1 Q) : tTupF tA σ H Q := q
theorem g_mkTF {Q : VK} {xs : List V} (hl : Nat.ble xs.length 1000 = true) (q : ∀ p H', H p = none → TupN H' p xs → Off [] H H' → Q (.ref p) H') : mkTF xs H Q := ⟨SH.sz hl, fun p o hp hd => q p _ hp ⟨o, upd_same, hd⟩ (.new hp)⟩
/-- t[lo:hi], whichever object it gives -/
theorem g_slA {lo hi : Option Int} (h : SqT K H a xs) (q : ∀ p H', SqT K H' p (cutV xs lo hi) → Off [] H H' → Q (.ref p) H') : rSlA K (.ref a) lo hi H Q := by
  refine ⟨a, xs, rfl, h, fun e => q a H ?_ (.refl _ _), fun _ p hp => q p _ (.of upd_same) (.new hp)⟩
  have z : cutV xs lo hi = xs := by
    unfold cutV
    rw [e.1, e.2, List.drop_zero, Nat.sub_zero, List.take_length]
  rw [z]
  exact h
def forR2 (vs : List V) (H : Hp) (g : TG) (tb : TS) (D : Ends) (σ : L2.St) : Prop := ∃ i j : Int, vs = [.int i, .int j] ∧ (-(2 ^ 62) ≤ i ∧ i < 2 ^ 62 ∧ -(2 ^ 62) ≤ j ∧ j < 2 ^ 62) ∧ forJ g tb D σ (Itr i (j - i).toNat) H
theorem g_forR2 (q : tA σ H fun vs H1 => forR2 vs H1 gt s1 ⟨N, R, Bk, Ct⟩ σ) : tFor (iRng2 tA) gt s1 ⟨N, R, Bk, Ct⟩ σ H := q
theorem forR2_mk {lo hi : Int} {k : Nat} (Pv : Nat → L2.St → Hp → Prop) (b : -(2 ^ 62) ≤ lo ∧ lo < 2 ^ 62 ∧ -(2 ^ 62) ≤ hi ∧ hi < 2 ^ 62) (h0 : Pv 0 σ H)
    (hs : ∀ i σ H, i < (hi - lo).toNat → Pv i σ H → s1 ⟨Pv (i + 1), R, N, Pv (i + 1)⟩ (σ.set k (some (.int (lo + (i : Int))))) H) (hd : ∀ σ H, Pv (hi - lo).toNat σ H → N σ H) : forR2 [.int lo, .int hi] H (gName k) s1 ⟨N, R, Bk, Ct⟩ σ :=
  ⟨lo, hi, rfl, b, for_range (lo := lo) (n := (hi - lo).toNat) (g := gName k) (D := ⟨N, R, Bk, Ct⟩) Pv h0 (fun i σ H hi p => hs i σ H hi p) hd⟩
def lckW (d : Addr) (od : Obj) (u : HO) (D : Ends) : Ends := ⟨fun σ' H' => H' d = some (.frz od u) ∧ D.nx σ' (upd H' d u), fun v H' => H' d = some (.frz od u) ∧ D.rt v (upd H' d u), fun σ' H' => H' d = some (.frz od u) ∧ D.bk σ' (upd H' d u), fun σ' H' => H' d = some (.frz od u) ∧ D.ct σ' (upd H' d u)⟩
theorem g_lock {t : TS} {D : Ends} (d : Addr) (u : HO) (h : H d = some u) (m : Mut (some u)) (q : ∀ od, t ⟨fun σ' H' => H' d = some (.frz od u) ∧ D.nx σ' (upd H' d u), fun v H' => H' d = some (.frz od u) ∧ D.rt v (upd H' d u), fun σ' H' => H' d = some (.frz od u) ∧ D.bk σ' (upd H' d u), fun σ' H' => H' d = some (.frz od u) ∧ D.ct σ' (upd H' d u)⟩ σ (upd H d (.frz od u))) : tLock t D σ H := ⟨d, u, h, m, q⟩
end
section
variable {K : PySem.W.Frag} {H : Hp} {Q : VK} {p : Addr} {xs : List V} {i : Int} {v : V}
theorem paired_snocV {α β : Type} {F : α → β → Prop} {a : α} {b : β} : ∀ {l : List α} {m : List β}, Paired F l m → F a b → Paired F (l ++ [a]) (m ++ [b])
  | _, _, .nil, h => .cons h .nil
  | _, _, .cons r t, h => .cons r (paired_snocV t h)
theorem paired_get' {α β : Type} {F : α → β → Prop} : ∀ {l : List α} {m : List β} {i : Nat} {x : α}, Paired F l m → l[i]? = some x → ∃ y, m[i]? = some y ∧ F x y
  | _, _, _, _, .nil, e => by simp at e
  | _, _, 0, _, .cons r t, e => by simp at e; subst e; exact ⟨_, rfl, r⟩
  | _, _, i + 1, x, .cons _ t, e => paired_get' (i := i) t (by simpa using e)
/-- equal data is told apart by its plain form -/
theorem eqv_emptyT (ds : List PyData) : PyData.eqv (.tuple ds) (.tuple []) = ds.isEmpty := by cases ds <;> rfl
end
/-! #### for k in d, d a dict of nested keys -/
def forN (P : Program) (w : World) (x : V) (H : Hp) (g : TG) (tb : TS) (D : Ends) (σ : L2.St) : Prop := ∃ d o xs, x = .ref d ∧ H d = some (.frz o (DN P w d xs)) ∧ forJ g tb D σ (ItN P w d o xs) H
section
variable {P : Program} {w : World} {K : PySem.W.Frag} {σ : L2.St} {H : Hp} {Q : VK} {d a : Addr} {o : Obj} {xs : List (NestedKey × Addr)} {te to : TE} {tt : TT} {gt : TG} {s1 : TS} {N : L2.St → Hp → Prop} {R : VK} {Bk Ct : L2.St → Hp → Prop}
theorem g_forN (q : te σ H fun x H1 => forN P w x H1 gt s1 ⟨N, R, Bk, Ct⟩ σ) : tFor (iKeysN P w te) gt s1 ⟨N, R, Bk, Ct⟩ σ H := q
theorem forN_mk (Pv : Nat → L2.St → Hp → Prop) (h : H d = some (.frz o (DN P w d xs))) (h0 : Pv 0 σ H) (hl : ∀ i σ H, i ≤ xs.length → Pv i σ H → H d = some (.frz o (DN P w d xs)))
    (hs : ∀ i k b σ H, xs[i]? = some (k, b) → Pv i σ H → gt (.ref b) σ H fun σ2 H2 => s1 ⟨Pv (i + 1), R, N, Pv (i + 1)⟩ σ2 H2) (hd : ∀ σ H, Pv xs.length σ H → N σ H) : forN P w (.ref d) H gt s1 ⟨N, R, Bk, Ct⟩ σ := by
  refine ⟨d, o, xs, rfl, h, fun i m σ H => m = xs.length - i ∧ i ≤ xs.length ∧ Pv i σ H, ⟨xs.length, by simp, Nat.zero_le _, h0⟩, ?_⟩
  rintro i m σ H ⟨rfl, hi, p⟩
  have q := hl i σ H hi p
  by_cases hlt : i < xs.length
  · refine .inr ⟨⟨q, hlt⟩, Pv (i + 1), fun σ' H' p' => ⟨xs.length - (i + 1), by omega, rfl, hlt, p'⟩, fun x H' y => ?_⟩
    obtain ⟨rfl, k, b, hk, rfl⟩ := y
    exact hs i k b σ _ hk p
  · have e : i = xs.length := by omega
    subst e
    exact .inl ⟨⟨q, Nat.le_refl _⟩, hd σ H p⟩
/-- [x for x in t if c x], t a tuple that stands for ms -/
theorem lcT_filP {β : Type} {F : V → β → Prop} {xs : List V} {ms : List β} {ws : List Nat} {j : Nat} (c : β → Bool) (hx : SqT K H a xs) (hp : Paired F xs ms) (hz : ms.length < sizeLine) (hw : ∀ x, wipe ((wipe σ ws).set j (some x)) ws = wipe σ ws)
    (ht : ∀ x m H1, F x m → Off [] H H1 → ∀ M : Bool → Hp → Prop, (∀ H2, Off [] H1 H2 → M (c m) H2) → tt ((wipe σ ws).set j (some x)) H1 M) (hv : ∀ x, ((wipe σ ws).set j (some x))[j]? = some (some x))
    (q : ∀ D H1 zs, H D = none → Off [] H H1 → H1 D = some (.lst zs) → Paired F zs (ms.filter c) → Q (.ref D) H1) : lcT K (.ref a) H (gName j) tt (tVar j) ws σ Q := by
  have hl := Paired.length hp
  refine lcT_mk (fun D i H1 => Off [] H H1 ∧ ∃ zs, H1 D = some (.lst zs) ∧ Paired F zs ((ms.take i).filter c)) hx (fun D hD => ⟨.new hD, [], by rw [upd_same], .nil⟩) (fun D i H1 hD hi p => p.1.seqT hx) (fun D i x H1 hD hi p => ?_) (fun D H1 hD p => ?_)
  · obtain ⟨p1, zs, p2, p3⟩ := p
    obtain ⟨m, hm, hf⟩ := paired_get' hp hi
    have et : ms.take (i + 1) = ms.take i ++ [m] := by rw [List.take_add_one, hm]; rfl
    refine ⟨hw x, ht x m H1 hf p1 _ fun H2 o2 => ?_⟩
    have hD2 := o2.at nin_nil p2
    cases hc : c m with
    | true =>
      refine br_t ⟨x, hv x, ?_⟩
      have hlz : zs.length < sizeLine := by
        rw [Paired.length p3]
        refine Nat.lt_of_le_of_lt (Nat.le_trans (List.length_filter_le ..) ?_) hz
        rw [List.length_take]
        omega
      refine g_app hD2 hlz ⟨(p1.trans o2).mut hD, zs ++ [x], upd_same, ?_⟩
      rw [et, List.filter_append]
      have e1 : [m].filter c = [m] := by simp [hc]
      rw [e1]
      exact paired_snocV p3 hf
    | false =>
      refine br_f ⟨p1.trans o2, zs, hD2, ?_⟩
      rw [et, List.filter_append]
      have e1 : [m].filter c = [] := by simp [hc]
      rw [e1, List.append_nil]
      exact p3
  · obtain ⟨p1, zs, p2, p3⟩ := p
    rw [hl, List.take_length] at p3
    exact q D H1 zs hD p1 p2 p3
end
end SH
end

section
/-! #### the walk's words -/
local macro_rules | `(tactic| walk_at "ne0") => `(tactic| first
  | assumption
  | (refine Ne.symm ?_; assumption))
local macro_rules | `(tactic| walk_at "ne") => `(tactic| first
  | assumption
  | (refine Ne.symm ?_; assumption)
  | (refine' L2.ne_of_none ?gx (by assumption); (case gx => walk_at "hp"))
  | (refine' Ne.symm (L2.ne_of_none ?gx (by assumption)); (case gx => walk_at "hp")))
local macro_rules | `(tactic| walk_at "hp") => `(tactic| first
  | assumption
  | exact L2.upd_same
  | (refine' SH.upd_new ?gh (by assumption); (case gh => walk_at "hp"))
  | (refine' (L2.upd_ne ?gn).trans ?gh; (case gn => walk_at "ne0"); (case gh => walk_at "hp"))
  | (refine' SH.Off.at (by assumption) ?gn ?gh; (case gn => walk_at "nin"); (case gh => walk_at "hp")))
local macro_rules | `(tactic| walk_at "nin") => `(tactic| first
  | exact SH.nin_nil
  | (refine SH.nin_cons ?_ ?_; (· walk_at "ne0"); (· walk_at "nin")))
local macro_rules | `(tactic| walk_at "sq") => `(tactic| first
  | assumption
  | (apply L2.SqL.of; (· walk_at "hp"))
  | (apply L2.SqT.of; (· walk_at "hp"))
  | (refine' SH.seqT_new ?gx (by assumption); (case gx => walk_at "sq"))
  | (refine' SH.seqL_new ?gx (by assumption); (case gx => walk_at "sq"))
  | (refine' SH.Off.seqT (by assumption) ?gx; (case gx => walk_at "sq"))
  | (refine' SH.Off.seqL (by assumption) ?gy ?gx; (case gx => walk_at "sq"); (case gy => walk_at "nin")))
local macro_rules | `(tactic| walk_at "kd") => `(tactic| first
  | assumption | exact SH.KdV.int _ | exact SH.KdV.bl _ | exact SH.KdV.str _ | exact SH.KdV.non
  | (apply SH.KdV.tup; (· walk_at "sq")) | (apply SH.KdV.lst; (· walk_at "sq")))
/-- a way that cannot be -/
local macro_rules | `(tactic| walk_at "no") => `(tactic| (exfalso; first | assumption | omega | contradiction | (simp_all; done)))
/-- one step -/
local macro_rules | `(tactic| walk_at "g1") => `(tactic| with_reducible first
  | refine SH.g_var (by with_unfolding_all rfl) ?_ | refine SH.g_c ?_ | refine SH.g_op ?_ | refine SH.g_un ?_ | refine SH.g_I0 ?_ | refine SH.g_U ?_
  | refine SH.g_eqI ?_ | refine SH.g_neI ?_ | refine SH.g_eqS ?_ | refine SH.g_neS ?_
  | refine SH.g_test ?_ | refine SH.g_B ?_ | refine SH.g_isB ?_ | refine SH.g_and ?_ | refine SH.g_or ?_ | refine SH.g_not ?_ | refine SH.g_andV ?_ | refine SH.g_orV ?_ | refine SH.g_notV ?_ | refine SH.g_ifE ?_ | refine SH.g_chain ?_
  | refine SH.g_nil ?_ | refine SH.g_cons ?_ | refine SH.g_tup ?_ | refine SH.g_lst ?_ | refine SH.g_call ?_ | refine SH.g_fld ?_ | refine SH.g_meth ?_ | refine SH.g_make ?_ | refine SH.g_cb ?_ | refine SH.g_bm ?_
  | refine SH.g_seq ?_ | refine SH.g_asg ?_ | refine SH.g_name ?_ | refine SH.g_drop ?_ | refine SH.g_ret ?_ | refine SH.g_retN ?_ | refine SH.g_next ?_ | refine SH.g_brk ?_ | refine SH.g_cnt ?_ | refine SH.g_ifs ?_ | refine SH.g_par ?_ | refine SH.g_par2 ?_ | refine SH.g_fldS ?_ | refine SH.g_raise ?_ | refine SH.g_rs ?_
  | refine SH.g_sub ?_ | refine SH.g_yes ?_ | refine SH.g_sl ?_ | refine SH.g_noPart ?_ | refine SH.g_part ?_ | refine SH.g_intO ?_ | refine SH.g_dget ?_ | refine SH.g_dput ?_ | refine SH.g_forR ?_ | refine SH.g_forL ?_ | refine SH.g_forT ?_ | refine SH.g_lcR ?_ | refine SH.g_lcL ?_ | refine SH.g_lcT ?_ | refine SH.g_gcons ?_ | refine SH.g_gnil ?_
  | refine SH.br_t ?_ | refine SH.br_f ?_
  | refine SH.g_int ?_ | refine SH.g_abs ?_ | refine SH.g_max2 ?_ | refine SH.g_min2 ?_)
local macro_rules | `(tactic| walk_at "g2") => `(tactic| first
  | walk_at "g1"
  | ((with_reducible refine' SH.g_isiInt ?ga ?gz); (case ga => walk_at "kd"))
  | ((with_reducible refine' SH.g_isiBool ?ga ?gz); (case ga => walk_at "kd"))
  | ((with_reducible refine' SH.g_isiStr ?ga ?gz); (case ga => walk_at "kd"))
  | ((with_reducible refine' SH.g_isiTup ?ga ?gz); (case ga => walk_at "kd"))
  | ((with_reducible refine' SH.g_ixT ?ga ?gb ?gz); (case ga => walk_at "sq"); (case gb => rfl))
  | ((with_reducible refine' SH.g_ixL ?ga ?gb ?gz); (case ga => walk_at "sq"); (case gb => first | rfl | (apply SH.atI_refs; assumption)))
  | ((with_reducible refine SH.br_F ?_ ?_); (· decide +kernel)) | ((with_reducible refine SH.br_T ?_ ?_); (· decide +kernel)) | ((with_reducible refine SH.br_NF ?_ ?_); (· decide +kernel)) | ((with_reducible refine SH.br_NT ?_ ?_); (· decide +kernel))
  | ((with_reducible refine' SH.g_gtup ?ga ?gb ?gz); (case ga => walk_at "sq"); (case gb => rfl))
  | ((with_reducible refine' SH.g_lenT ?ga ?gz); (case ga => walk_at "sq"))
  | ((with_reducible refine' SH.g_lenL ?ga ?gz); (case ga => walk_at "sq"))
  | ((with_reducible refine SH.g_mkT (SH.sz rfl) ?_); intro _ _)
  | ((with_reducible refine SH.g_mkL (SH.sz rfl) ?_); intro _ _)
  | ((with_reducible refine SH.g_dnew ?_); intro _ _)
  | ((with_reducible refine' SH.g_tupL ?ga ?gz); (case ga => walk_at "sq"); intro _ _)
  | ((with_reducible refine' SH.g_lstL ?ga ?gz); (case ga => walk_at "sq"); intro _ _)
  | ((with_reducible refine' SH.g_lstT ?ga ?gz); (case ga => walk_at "sq"); intro _ _)
  | ((with_reducible refine' SH.g_dgR ?ga ?gb ?gz); (case ga => walk_at "hp"); (case gb => walk_at "dv"))
  | ((with_reducible refine' SH.g_fldR ?ga ?gb ?gc ?gd ?gz); (case ga => walk_at "hp"); (case gb => walk_at "cl"); (case gc => walk_at "na"); (case gd => walk_at "fv"))
  | ((with_reducible refine' SH.g_insR ?ga ?gb ?gz); (case ga => walk_at "hp"); (case gb => walk_at "fn"))
  | ((with_reducible refine' SH.g_setL ?ga ?gb ?gz); (case ga => walk_at "hp"); (case gb => rfl))
  | ((with_reducible refine SH.g_I ?_ ?_); (· walk_at "ci"))
  | ((with_reducible refine' SH.g_slL ?ga ?gz); (case ga => walk_at "sq"); intro _ _)
  | ((with_reducible refine' SH.g_cat ?ga ?gb ?gc ?gz); (case ga => walk_at "hp"); (case gb => walk_at "hp"); (case gc => walk_at "ls"); intro _ _))
/-- the side conditions of numbers: a divisor, a factor -/
local macro_rules | `(tactic| walk_at "ci") => `(tactic| first
  | (show _ ≠ _; omega) | (show _ < _; omega) | (constructor <;> omega) | (refine Or.inr ⟨?_, ?_⟩ <;> (show _ < _; omega)) | (refine Or.inl ⟨?_, ?_⟩ <;> (show _ < _; omega)) | (refine ⟨?_, ?_, ?_⟩ <;> decide))
local macro_rules | `(tactic| walk_at "ls") => `(tactic| first | (show _ ≤ _; exact Nat.le_trans (by assumption) (by decide)) | (show _ ≤ _; exact Nat.le_trans (by simp; omega) (by decide : 1000 ≤ sizeLine)))
local macro_rules | `(tactic| walk_at "dv") => `(tactic| rfl)
local macro_rules | `(tactic| walk_at "fv") => `(tactic| rfl)
local macro_rules | `(tactic| walk_at "fn") => `(tactic| rfl)
local macro_rules | `(tactic| walk_at "cl") => `(tactic| assumption)
local macro_rules | `(tactic| walk_at "na") => `(tactic| assumption)
local macro_rules | `(tactic| walk_at "go") => `(tactic| repeat walk_at "g2")
/-- a way is split -/
local macro_rules | `(tactic| walk_at "br") => `(tactic| with_reducible first
  | refine SH.br_d (fun _ => ?_) (fun _ => ?_) | refine SH.br_nd (fun _ => ?_) (fun _ => ?_) | refine SH.br_b (fun _ => ?_) (fun _ => ?_))
/-- all ways -/
local macro_rules | `(tactic| walk_at "all") => `(tactic| repeat' first | walk_at "g2" | (walk_at "br" <;> try (walk_at "no")))
/-- a truth value is the other -/
local macro_rules | `(tactic| walk_at "bq") => `(tactic| first | rfl | (simp_all; done) | (simp_all; omega) | (simp only [decide_eq_true_eq, decide_eq_false_iff_not, Bool.and_eq_true, Bool.or_eq_true] at *; omega))
/-- what was tracked is as it was -/
local macro_rules | `(tactic| walk_at "of") => `(tactic| first
  | assumption
  | exact SH.Off.refl _ _
  | (refine' SH.Off.new2 ?gx (by assumption); (case gx => walk_at "of"))
  | (refine' SH.Off.mut ?gx (by assumption); (case gx => walk_at "of"))
  | (refine' SH.Off.trans' ?gx (by assumption) ?gy; (case gy => (intro _ h; (first | exact h | (simp at h; done) | (simp at h ⊢; simp [h]; done)))); (case gx => walk_at "of")))
namespace SH
open PySem PySem.Spec PyProof.Rows L2
def top (i : Nat) : Stmt := PySem.Challenge.pw_surehaul_k00_whole_sure_for_ever.main.body.getD i (.Pass ⟨0, 0, 0, 0⟩)
abbrev s_is_integer : Stmt := top 4
theorem sc_is_integer : FnScope ["value"] ["value"] (defScope s_is_integer) := ⟨rfl, rfl, rfl, by decide +kernel, rfl, by decide +kernel, by decide +kernel⟩
abbrev s_is_in : Stmt := top 5
theorem sc_is_in : FnScope ["value", "low", "high"] ["value", "low", "high"] (defScope s_is_in) := ⟨rfl, rfl, rfl, by decide +kernel, rfl, by decide +kernel, by decide +kernel⟩
abbrev s_is_tuple_of : Stmt := top 6
theorem sc_is_tuple_of : FnScope ["value", "many"] ["value", "many"] (defScope s_is_tuple_of) := ⟨rfl, rfl, rfl, by decide +kernel, rfl, by decide +kernel, by decide +kernel⟩
abbrev s_are_between : Stmt := top 7
theorem sc_are_between : FnScope ["value", "least", "most"] ["value", "least", "most"] (defScope s_are_between) := ⟨rfl, rfl, rfl, by decide +kernel, rfl, by decide +kernel, by decide +kernel⟩
abbrev s_demand : Stmt := top 8
theorem sc_demand : FnScope ["is_good", "name"] ["is_good", "name"] (defScope s_demand) := ⟨rfl, rfl, rfl, by decide +kernel, rfl, by decide +kernel, by decide +kernel⟩
abbrev s_divisor : Stmt := top 9
theorem sc_divisor : FnScope ["one", "other"] ["one", "other"] (defScope s_divisor) := ⟨rfl, rfl, rfl, by decide +kernel, rfl, by decide +kernel, by decide +kernel⟩
abbrev s_is_growth : Stmt := top 14
theorem sc_is_growth : FnScope ["value", "one", "two", "to"] ["value"] (defScope s_is_growth) := ⟨rfl, rfl, rfl, by decide +kernel, rfl, by decide +kernel, by decide +kernel⟩
abbrev s_demand_stock : Stmt := top 15
theorem sc_demand_stock : FnScope ["growth", "start"] ["growth", "start"] (defScope s_demand_stock) := ⟨rfl, rfl, rfl, by decide +kernel, rfl, by decide +kernel, by decide +kernel⟩
abbrev s_top_of : Stmt := top 16
theorem sc_top_of : FnScope ["growth", "start", "found", "stock", "season"] ["growth", "start"] (defScope s_top_of) := ⟨rfl, rfl, rfl, by decide +kernel, rfl, by decide +kernel, by decide +kernel⟩
abbrev s_top : Stmt := top 17
theorem sc_top : FnScope ["growth", "start"] ["growth", "start"] (defScope s_top) := ⟨rfl, rfl, rfl, by decide +kernel, rfl, by decide +kernel, by decide +kernel⟩
abbrev s_walks_of : Stmt := top 18
theorem sc_walks_of : FnScope ["growth", "last", "stock", "rows", "season", "row", "caught", "catch", "after"] ["growth", "last"] (defScope s_walks_of) := ⟨rfl, rfl, rfl, by decide +kernel, rfl, by decide +kernel, by decide +kernel⟩
abbrev s_lesser : Stmt := top 19
theorem sc_lesser : FnScope ["one", "other"] ["one", "other"] (defScope s_lesser) := ⟨rfl, rfl, rfl, by decide +kernel, rfl, by decide +kernel, by decide +kernel⟩
abbrev s_worst_mean : Stmt := top 20
theorem sc_worst_mean : FnScope ["rows", "stock", "last", "found", "season"] ["rows", "stock"] (defScope s_worst_mean) := ⟨rfl, rfl, rfl, by decide +kernel, rfl, by decide +kernel, by decide +kernel⟩
abbrev s_best_mean : Stmt := top 21
theorem sc_best_mean : FnScope ["growth", "last", "rows", "best", "stock", "found", "by"] ["growth", "last"] (defScope s_best_mean) := ⟨rfl, rfl, rfl, by decide +kernel, rfl, by decide +kernel, by decide +kernel⟩
abbrev s_for_ever : Stmt := top 22
theorem sc_for_ever : FnScope ["growth", "start"] ["growth", "start"] (defScope s_for_ever) := ⟨rfl, rfl, rfl, by decide +kernel, rfl, by decide +kernel, by decide +kernel⟩
abbrev s_worths_of : Stmt := top 23
theorem sc_worths_of : FnScope ["growth", "last", "mean", "stock", "found", "changed", "best", "catch"] ["growth", "last", "mean"] (defScope s_worths_of) := ⟨rfl, rfl, rfl, by decide +kernel, rfl, by decide +kernel, by decide +kernel⟩
abbrev s_worths : Stmt := top 24
theorem sc_worths : FnScope ["growth", "start", "last"] ["growth", "start"] (defScope s_worths) := ⟨rfl, rfl, rfl, by decide +kernel, rfl, by decide +kernel, by decide +kernel⟩
abbrev s_is_worths : Stmt := top 25
theorem sc_is_worths : FnScope ["growth", "start", "value", "last", "part", "whole", "stock", "catch", "worth"] ["growth", "start", "value"] (defScope s_is_worths) := ⟨rfl, rfl, rfl, by decide +kernel, rfl, by decide +kernel, by decide +kernel⟩
abbrev s_tight_steps : Stmt := top 26
theorem sc_tight_steps : FnScope ["growth", "last", "mean", "found", "steps", "stock", "catch"] ["growth", "last", "mean"] (defScope s_tight_steps) := ⟨rfl, rfl, rfl, by decide +kernel, rfl, by decide +kernel, by decide +kernel⟩
abbrev s_way_back : Stmt := top 27
theorem sc_way_back : FnScope ["growth", "steps", "start", "known", "waiting", "stock", "catch", "after"] ["growth", "steps", "start"] (defScope s_way_back) := ⟨rfl, rfl, rfl, by decide +kernel, rfl, by decide +kernel, by decide +kernel⟩
abbrev s_fishing : Stmt := top 28
theorem sc_fishing : FnScope ["growth", "start", "last", "steps", "stock", "begin", "again", "catch", "left", "here", "first"] ["growth", "start"] (defScope s_fishing) := ⟨rfl, rfl, rfl, by decide +kernel, rfl, by decide +kernel, by decide +kernel⟩
abbrev s_are_catches : Stmt := top 29
theorem sc_are_catches : FnScope ["value", "least", "catch"] ["value", "least"] (defScope s_are_catches) := ⟨rfl, rfl, rfl, by decide +kernel, rfl, by decide +kernel, by decide +kernel⟩
abbrev s_stock_behind : Stmt := top 30
theorem sc_stock_behind : FnScope ["growth", "stock", "catches", "catch"] ["growth", "stock", "catches"] (defScope s_stock_behind) := ⟨rfl, rfl, rfl, by decide +kernel, rfl, by decide +kernel, by decide +kernel⟩
abbrev s_is_fishing : Stmt := top 31
theorem sc_is_fishing : FnScope ["growth", "start", "value", "ahead", "behind", "part", "whole"] ["growth", "start", "value"] (defScope s_is_fishing) := ⟨rfl, rfl, rfl, by decide +kernel, rfl, by decide +kernel, by decide +kernel⟩
abbrev s_law_dice : Stmt := top 33
theorem sc_law_dice : FnScope ["script", "spot", "own", "mixed", "cell"] ["script", "spot"] (defScope s_law_dice) := ⟨rfl, rfl, rfl, by decide +kernel, rfl, by decide +kernel, by decide +kernel⟩
abbrev s_law_roll : Stmt := top 34
theorem sc_law_roll : FnScope ["dice", "total", "found"] ["dice", "total"] (defScope s_law_roll) := ⟨rfl, rfl, rfl, by decide +kernel, rfl, by decide +kernel, by decide +kernel⟩
abbrev s_law_pick : Stmt := top 35
theorem sc_law_pick : FnScope ["dice", "things"] ["dice", "things"] (defScope s_law_pick) := ⟨rfl, rfl, rfl, by decide +kernel, rfl, by decide +kernel, by decide +kernel⟩
abbrev s_law_refused : Stmt := top 36
theorem sc_law_refused : FnScope ["call", "e"] ["call"] (defScope s_law_refused) := ⟨rfl, rfl, rfl, by decide +kernel, rfl, by decide +kernel, by decide +kernel⟩
abbrev s_law_h_growth : Stmt := top 37
theorem sc_law_h_growth : FnScope ["dice", "most", "way", "by", "found", "stock"] ["dice"] (defScope s_law_h_growth) := ⟨rfl, rfl, rfl, by decide +kernel, rfl, by decide +kernel, by decide +kernel⟩
abbrev s_law_h_top : Stmt := top 38
theorem sc_law_h_top : FnScope ["growth", "start", "found", "stock", "season"] ["growth", "start"] (defScope s_law_h_top) := ⟨rfl, rfl, rfl, by decide +kernel, rfl, by decide +kernel, by decide +kernel⟩
abbrev s_law_h_fish : Stmt := top 39
theorem sc_law_h_fish : FnScope ["growth", "start", "value", "part", "stock", "stocks", "catch", "one"] ["growth", "start", "value"] (defScope s_law_h_fish) := ⟨rfl, rfl, rfl, by decide +kernel, rfl, by decide +kernel, by decide +kernel⟩
abbrev s_law_h_worths : Stmt := top 40
theorem sc_law_h_worths : FnScope ["growth", "last", "value", "mean", "stock", "left", "one"] ["growth", "last", "value", "mean"] (defScope s_law_h_worths) := ⟨rfl, rfl, rfl, by decide +kernel, rfl, by decide +kernel, by decide +kernel⟩
abbrev s_law_is_frac : Stmt := top 41
theorem sc_law_is_frac : FnScope ["value", "one", "two"] ["value"] (defScope s_law_is_frac) := ⟨rfl, rfl, rfl, by decide +kernel, rfl, by decide +kernel, by decide +kernel⟩
abbrev s_law_near_fishing : Stmt := top 42
theorem sc_law_near_fishing : FnScope ["dice", "value", "first", "again", "at", "by", "bent", "odd"] ["dice", "value"] (defScope s_law_near_fishing) := ⟨rfl, rfl, rfl, by decide +kernel, rfl, by decide +kernel, by decide +kernel⟩
abbrev s_law_near_worths : Stmt := top 43
theorem sc_law_near_worths : FnScope ["dice", "value", "at", "by", "odd", "one"] ["dice", "value"] (defScope s_law_near_worths) := ⟨rfl, rfl, rfl, by decide +kernel, rfl, by decide +kernel, by decide +kernel⟩
abbrev s_law_more_right : Stmt := top 44
theorem sc_law_more_right : FnScope ["dice", "growth", "start", "mean", "at", "more", "later", "one", "two", "stock"] ["dice", "growth", "start", "mean"] (defScope s_law_more_right) := ⟨rfl, rfl, rfl, by decide +kernel, rfl, by decide +kernel, by decide +kernel⟩
abbrev s_law_right : Stmt := top 45
theorem sc_law_right : FnScope ["dice", "start", "last", "mean", "value", "paper", "found", "turn", "one", "two", "told", "bad", "growth", "odd"] ["dice"] (defScope s_law_right) := ⟨rfl, rfl, rfl, by decide +kernel, rfl, by decide +kernel, by decide +kernel⟩
abbrev s_law : Stmt := top 46
theorem sc_law : FnScope ["script", "spot"] ["script"] (defScope s_law) := ⟨rfl, rfl, rfl, by decide +kernel, rfl, by decide +kernel, by decide +kernel⟩
/-- what the top has written -/
structure Txt (P : Program) (w : World) (K : PySem.W.Frag) (mg : Str → Option Value) : Prop where
  blt : Blt mg
  c_LEAST_GROWTH : Ci mg "LEAST_GROWTH" 2
  c_MOST_GROWTH : Ci mg "MOST_GROWTH" 31
  c_MOST_SEASONS : Ci mg "MOST_SEASONS" 200
  d_is_integer : TopD K mg "is_integer" s_is_integer
  d_is_in : TopD K mg "is_in" s_is_in
  d_is_tuple_of : TopD K mg "is_tuple_of" s_is_tuple_of
  d_are_between : TopD K mg "are_between" s_are_between
  d_demand : TopD K mg "demand" s_demand
  d_divisor : TopD K mg "divisor" s_divisor
  d_is_growth : TopD K mg "is_growth" s_is_growth
  d_demand_stock : TopD K mg "demand_stock" s_demand_stock
  d_top_of : TopD K mg "top_of" s_top_of
  d_top : TopD K mg "top" s_top
  d_walks_of : TopD K mg "walks_of" s_walks_of
  d_lesser : TopD K mg "lesser" s_lesser
  d_worst_mean : TopD K mg "worst_mean" s_worst_mean
  d_best_mean : TopD K mg "best_mean" s_best_mean
  d_for_ever : TopD K mg "for_ever" s_for_ever
  d_worths_of : TopD K mg "worths_of" s_worths_of
  d_worths : TopD K mg "worths" s_worths
  d_is_worths : TopD K mg "is_worths" s_is_worths
  d_tight_steps : TopD K mg "tight_steps" s_tight_steps
  d_way_back : TopD K mg "way_back" s_way_back
  d_fishing : TopD K mg "fishing" s_fishing
  d_are_catches : TopD K mg "are_catches" s_are_catches
  d_stock_behind : TopD K mg "stock_behind" s_stock_behind
  d_is_fishing : TopD K mg "is_fishing" s_is_fishing
  d_law_dice : TopD K mg "_law_dice" s_law_dice
  d_law_roll : TopD K mg "_law_roll" s_law_roll
  d_law_pick : TopD K mg "_law_pick" s_law_pick
  d_law_refused : TopD K mg "_law_refused" s_law_refused
  d_law_h_growth : TopD K mg "_law_h_growth" s_law_h_growth
  d_law_h_top : TopD K mg "_law_h_top" s_law_h_top
  d_law_h_fish : TopD K mg "_law_h_fish" s_law_h_fish
  d_law_h_worths : TopD K mg "_law_h_worths" s_law_h_worths
  d_law_is_frac : TopD K mg "_law_is_frac" s_law_is_frac
  d_law_near_fishing : TopD K mg "_law_near_fishing" s_law_near_fishing
  d_law_near_worths : TopD K mg "_law_near_worths" s_law_near_worths
  d_law_more_right : TopD K mg "_law_more_right" s_law_more_right
  d_law_right : TopD K mg "_law_right" s_law_right
  d_law : TopD K mg "law" s_law
  g_HaulError : mg "HaulError" = some (.ref (He.ga K "HaulError"))
  g_BadArgument : mg "BadArgument" = some (.ref (He.ga K "BadArgument"))
  x_BadArgument : XsOk P w K mg "BadArgument" "name" (He.ga K "BadArgument")
  xc_BadArgument : XcOk K (He.ga K "BadArgument") "name"
  xr_BadArgument_HaulError : XrOk K (He.ga K "BadArgument") (He.ga K "HaulError") true
  xr_BadArgument_BadArgument : XrOk K (He.ga K "BadArgument") (He.ga K "BadArgument") true
end SH
end

section
/-! #### the walk's words -/
local macro_rules | `(tactic| walk_at "ne0") => `(tactic| first
  | assumption
  | (refine Ne.symm ?_; assumption))
local macro_rules | `(tactic| walk_at "ne") => `(tactic| first
  | assumption
  | (refine Ne.symm ?_; assumption)
  | (refine' L2.ne_of_none ?gx (by assumption); (case gx => walk_at "hp"))
  | (refine' Ne.symm (L2.ne_of_none ?gx (by assumption)); (case gx => walk_at "hp")))
local macro_rules | `(tactic| walk_at "hp") => `(tactic| first
  | assumption
  | exact L2.upd_same
  | (refine' SH.upd_new ?gh (by assumption); (case gh => walk_at "hp"))
  | (refine' (L2.upd_ne ?gn).trans ?gh; (case gn => walk_at "ne0"); (case gh => walk_at "hp"))
  | (refine' SH.Off.at (by assumption) ?gn ?gh; (case gn => walk_at "nin"); (case gh => walk_at "hp")))
local macro_rules | `(tactic| walk_at "nin") => `(tactic| first
  | exact SH.nin_nil
  | (refine SH.nin_cons ?_ ?_; (· walk_at "ne0"); (· walk_at "nin")))
local macro_rules | `(tactic| walk_at "sq") => `(tactic| first
  | assumption
  | (apply L2.SqL.of; (· walk_at "hp"))
  | (apply L2.SqT.of; (· walk_at "hp"))
  | (refine' SH.seqT_new ?gx (by assumption); (case gx => walk_at "sq"))
  | (refine' SH.seqL_new ?gx (by assumption); (case gx => walk_at "sq"))
  | (refine' SH.Off.seqT (by assumption) ?gx; (case gx => walk_at "sq"))
  | (refine' SH.Off.seqL (by assumption) ?gy ?gx; (case gx => walk_at "sq"); (case gy => walk_at "nin")))
local macro_rules | `(tactic| walk_at "kd") => `(tactic| first
  | assumption | exact SH.KdV.int _ | exact SH.KdV.bl _ | exact SH.KdV.str _ | exact SH.KdV.non
  | (apply SH.KdV.tup; (· walk_at "sq")) | (apply SH.KdV.lst; (· walk_at "sq")))
/-- a way that cannot be -/
local macro_rules | `(tactic| walk_at "no") => `(tactic| (exfalso; first | assumption | omega | contradiction | (simp_all; done)))
/-- one step -/
local macro_rules | `(tactic| walk_at "g1") => `(tactic| with_reducible first
  | refine SH.g_var (by with_unfolding_all rfl) ?_ | refine SH.g_c ?_ | refine SH.g_op ?_ | refine SH.g_un ?_ | refine SH.g_I0 ?_ | refine SH.g_U ?_
  | refine SH.g_eqI ?_ | refine SH.g_neI ?_ | refine SH.g_eqS ?_ | refine SH.g_neS ?_
  | refine SH.g_test ?_ | refine SH.g_B ?_ | refine SH.g_isB ?_ | refine SH.g_and ?_ | refine SH.g_or ?_ | refine SH.g_not ?_ | refine SH.g_andV ?_ | refine SH.g_orV ?_ | refine SH.g_notV ?_ | refine SH.g_ifE ?_ | refine SH.g_chain ?_
  | refine SH.g_nil ?_ | refine SH.g_cons ?_ | refine SH.g_tup ?_ | refine SH.g_lst ?_ | refine SH.g_call ?_ | refine SH.g_fld ?_ | refine SH.g_meth ?_ | refine SH.g_make ?_ | refine SH.g_cb ?_ | refine SH.g_bm ?_
  | refine SH.g_seq ?_ | refine SH.g_asg ?_ | refine SH.g_name ?_ | refine SH.g_drop ?_ | refine SH.g_ret ?_ | refine SH.g_retN ?_ | refine SH.g_next ?_ | refine SH.g_brk ?_ | refine SH.g_cnt ?_ | refine SH.g_ifs ?_ | refine SH.g_par ?_ | refine SH.g_par2 ?_ | refine SH.g_fldS ?_ | refine SH.g_raise ?_ | refine SH.g_rs ?_
  | refine SH.g_sub ?_ | refine SH.g_yes ?_ | refine SH.g_sl ?_ | refine SH.g_noPart ?_ | refine SH.g_part ?_ | refine SH.g_intO ?_ | refine SH.g_dget ?_ | refine SH.g_dput ?_ | refine SH.g_forR ?_ | refine SH.g_forL ?_ | refine SH.g_forT ?_ | refine SH.g_lcR ?_ | refine SH.g_lcL ?_ | refine SH.g_lcT ?_ | refine SH.g_gcons ?_ | refine SH.g_gnil ?_
  | refine SH.br_t ?_ | refine SH.br_f ?_
  | refine SH.g_int ?_ | refine SH.g_abs ?_ | refine SH.g_max2 ?_ | refine SH.g_min2 ?_)
local macro_rules | `(tactic| walk_at "g2") => `(tactic| first
  | walk_at "g1"
  | ((with_reducible refine' SH.g_isiInt ?ga ?gz); (case ga => walk_at "kd"))
  | ((with_reducible refine' SH.g_isiBool ?ga ?gz); (case ga => walk_at "kd"))
  | ((with_reducible refine' SH.g_isiStr ?ga ?gz); (case ga => walk_at "kd"))
  | ((with_reducible refine' SH.g_isiTup ?ga ?gz); (case ga => walk_at "kd"))
  | ((with_reducible refine' SH.g_ixT ?ga ?gb ?gz); (case ga => walk_at "sq"); (case gb => rfl))
  | ((with_reducible refine' SH.g_ixL ?ga ?gb ?gz); (case ga => walk_at "sq"); (case gb => first | rfl | (apply SH.atI_refs; assumption)))
  | ((with_reducible refine SH.br_F ?_ ?_); (· decide +kernel)) | ((with_reducible refine SH.br_T ?_ ?_); (· decide +kernel)) | ((with_reducible refine SH.br_NF ?_ ?_); (· decide +kernel)) | ((with_reducible refine SH.br_NT ?_ ?_); (· decide +kernel))
  | ((with_reducible refine' SH.g_gtup ?ga ?gb ?gz); (case ga => walk_at "sq"); (case gb => rfl))
  | ((with_reducible refine' SH.g_lenT ?ga ?gz); (case ga => walk_at "sq"))
  | ((with_reducible refine' SH.g_lenL ?ga ?gz); (case ga => walk_at "sq"))
  | ((with_reducible refine SH.g_mkT (SH.sz rfl) ?_); intro _ _)
  | ((with_reducible refine SH.g_mkL (SH.sz rfl) ?_); intro _ _)
  | ((with_reducible refine SH.g_dnew ?_); intro _ _)
  | ((with_reducible refine' SH.g_tupL ?ga ?gz); (case ga => walk_at "sq"); intro _ _)
  | ((with_reducible refine' SH.g_lstL ?ga ?gz); (case ga => walk_at "sq"); intro _ _)
  | ((with_reducible refine' SH.g_lstT ?ga ?gz); (case ga => walk_at "sq"); intro _ _)
  | ((with_reducible refine' SH.g_dgR ?ga ?gb ?gz); (case ga => walk_at "hp"); (case gb => walk_at "dv"))
  | ((with_reducible refine' SH.g_fldR ?ga ?gb ?gc ?gd ?gz); (case ga => walk_at "hp"); (case gb => walk_at "cl"); (case gc => walk_at "na"); (case gd => walk_at "fv"))
  | ((with_reducible refine' SH.g_insR ?ga ?gb ?gz); (case ga => walk_at "hp"); (case gb => walk_at "fn"))
  | ((with_reducible refine' SH.g_setL ?ga ?gb ?gz); (case ga => walk_at "hp"); (case gb => rfl))
  | ((with_reducible refine SH.g_I ?_ ?_); (· walk_at "ci"))
  | ((with_reducible refine' SH.g_slL ?ga ?gz); (case ga => walk_at "sq"); intro _ _)
  | ((with_reducible refine' SH.g_cat ?ga ?gb ?gc ?gz); (case ga => walk_at "hp"); (case gb => walk_at "hp"); (case gc => walk_at "ls"); intro _ _))
/-- the side conditions of numbers: a divisor, a factor -/
local macro_rules | `(tactic| walk_at "ci") => `(tactic| first
  | (show _ ≠ _; omega) | (show _ < _; omega) | (constructor <;> omega) | (refine Or.inr ⟨?_, ?_⟩ <;> (show _ < _; omega)) | (refine Or.inl ⟨?_, ?_⟩ <;> (show _ < _; omega)) | (refine ⟨?_, ?_, ?_⟩ <;> decide))
local macro_rules | `(tactic| walk_at "ls") => `(tactic| first | (show _ ≤ _; exact Nat.le_trans (by assumption) (by decide)) | (show _ ≤ _; exact Nat.le_trans (by simp; omega) (by decide : 1000 ≤ sizeLine)))
local macro_rules | `(tactic| walk_at "dv") => `(tactic| rfl)
local macro_rules | `(tactic| walk_at "fv") => `(tactic| rfl)
local macro_rules | `(tactic| walk_at "fn") => `(tactic| rfl)
local macro_rules | `(tactic| walk_at "cl") => `(tactic| assumption)
local macro_rules | `(tactic| walk_at "na") => `(tactic| assumption)
local macro_rules | `(tactic| walk_at "go") => `(tactic| repeat walk_at "g2")
/-- a way is split -/
local macro_rules | `(tactic| walk_at "br") => `(tactic| with_reducible first
  | refine SH.br_d (fun _ => ?_) (fun _ => ?_) | refine SH.br_nd (fun _ => ?_) (fun _ => ?_) | refine SH.br_b (fun _ => ?_) (fun _ => ?_))
/-- all ways -/
local macro_rules | `(tactic| walk_at "all") => `(tactic| repeat' first | walk_at "g2" | (walk_at "br" <;> try (walk_at "no")))
/-- a truth value is the other -/
local macro_rules | `(tactic| walk_at "bq") => `(tactic| first | rfl | (simp_all; done) | (simp_all; omega) | (simp only [decide_eq_true_eq, decide_eq_false_iff_not, Bool.and_eq_true, Bool.or_eq_true] at *; omega))
/-- what was tracked is as it was -/
local macro_rules | `(tactic| walk_at "of") => `(tactic| first
  | assumption
  | exact SH.Off.refl _ _
  | (refine' SH.Off.new2 ?gx (by assumption); (case gx => walk_at "of"))
  | (refine' SH.Off.mut ?gx (by assumption); (case gx => walk_at "of"))
  | (refine' SH.Off.trans' ?gx (by assumption) ?gy; (case gy => (intro _ h; (first | exact h | (simp at h; done) | (simp at h ⊢; simp [h]; done)))); (case gx => walk_at "of")))
namespace SH
open PySem PySem.Spec PyProof.Rows L2
abbrev thePr : Program := PySem.Challenge.pw_surehaul_k00_whole_sure_for_ever
abbrev s_x_BadArgument : Stmt := inClass (top 2) 0
def fa : List He.Fa := [.free "len", .free "range", .free "isinstance", .free "abs", .free "int", .free "bool", .free "str", .free "tuple", .free "dict", .free "list", .free "min", .free "max", .free "any", .free "all", .free "sum", .free "sorted", .free "repr", .free "zip", .free "enumerate", .int "LEAST_GROWTH" 2, .int "MOST_GROWTH" 31, .int "MOST_SEASONS" 200, .glo "is_integer", .glo "is_in", .glo "is_tuple_of", .glo "are_between", .glo "demand", .glo "divisor", .glo "is_growth", .glo "demand_stock", .glo "top_of", .glo "top", .glo "walks_of", .glo "lesser", .glo "worst_mean", .glo "best_mean", .glo "for_ever", .glo "worths_of", .glo "worths", .glo "is_worths", .glo "tight_steps", .glo "way_back", .glo "fishing", .glo "are_catches", .glo "stock_behind", .glo "is_fishing", .glo "_law_dice", .glo "_law_roll", .glo "_law_pick", .glo "_law_refused", .glo "_law_h_growth", .glo "_law_h_top", .glo "_law_h_fish", .glo "_law_h_worths", .glo "_law_is_frac", .glo "_law_near_fishing", .glo "_law_near_worths", .glo "_law_more_right", .glo "_law_right", .glo "law", .glo "HaulError", .glo "BadArgument"]
def fn : List He.DefD := [⟨("is_integer", none), "is_integer", "is_integer", defArgs s_is_integer, defBody s_is_integer, defScope s_is_integer, [], []⟩,
  ⟨("is_in", none), "is_in", "is_in", defArgs s_is_in, defBody s_is_in, defScope s_is_in, [], []⟩,
  ⟨("is_tuple_of", none), "is_tuple_of", "is_tuple_of", defArgs s_is_tuple_of, defBody s_is_tuple_of, defScope s_is_tuple_of, [], []⟩,
  ⟨("are_between", none), "are_between", "are_between", defArgs s_are_between, defBody s_are_between, defScope s_are_between, [], []⟩,
  ⟨("demand", none), "demand", "demand", defArgs s_demand, defBody s_demand, defScope s_demand, [], []⟩,
  ⟨("divisor", none), "divisor", "divisor", defArgs s_divisor, defBody s_divisor, defScope s_divisor, [], []⟩,
  ⟨("is_growth", none), "is_growth", "is_growth", defArgs s_is_growth, defBody s_is_growth, defScope s_is_growth, [], []⟩,
  ⟨("demand_stock", none), "demand_stock", "demand_stock", defArgs s_demand_stock, defBody s_demand_stock, defScope s_demand_stock, [], []⟩,
  ⟨("top_of", none), "top_of", "top_of", defArgs s_top_of, defBody s_top_of, defScope s_top_of, [], []⟩,
  ⟨("top", none), "top", "top", defArgs s_top, defBody s_top, defScope s_top, [], []⟩,
  ⟨("walks_of", none), "walks_of", "walks_of", defArgs s_walks_of, defBody s_walks_of, defScope s_walks_of, [], []⟩,
  ⟨("lesser", none), "lesser", "lesser", defArgs s_lesser, defBody s_lesser, defScope s_lesser, [], []⟩,
  ⟨("worst_mean", none), "worst_mean", "worst_mean", defArgs s_worst_mean, defBody s_worst_mean, defScope s_worst_mean, [], []⟩,
  ⟨("best_mean", none), "best_mean", "best_mean", defArgs s_best_mean, defBody s_best_mean, defScope s_best_mean, [], []⟩,
  ⟨("for_ever", none), "for_ever", "for_ever", defArgs s_for_ever, defBody s_for_ever, defScope s_for_ever, [], []⟩,
  ⟨("worths_of", none), "worths_of", "worths_of", defArgs s_worths_of, defBody s_worths_of, defScope s_worths_of, [], []⟩,
  ⟨("worths", none), "worths", "worths", defArgs s_worths, defBody s_worths, defScope s_worths, [], []⟩,
  ⟨("is_worths", none), "is_worths", "is_worths", defArgs s_is_worths, defBody s_is_worths, defScope s_is_worths, [], []⟩,
  ⟨("tight_steps", none), "tight_steps", "tight_steps", defArgs s_tight_steps, defBody s_tight_steps, defScope s_tight_steps, [], []⟩,
  ⟨("way_back", none), "way_back", "way_back", defArgs s_way_back, defBody s_way_back, defScope s_way_back, [], []⟩,
  ⟨("fishing", none), "fishing", "fishing", defArgs s_fishing, defBody s_fishing, defScope s_fishing, [], []⟩,
  ⟨("are_catches", none), "are_catches", "are_catches", defArgs s_are_catches, defBody s_are_catches, defScope s_are_catches, [], []⟩,
  ⟨("stock_behind", none), "stock_behind", "stock_behind", defArgs s_stock_behind, defBody s_stock_behind, defScope s_stock_behind, [], []⟩,
  ⟨("is_fishing", none), "is_fishing", "is_fishing", defArgs s_is_fishing, defBody s_is_fishing, defScope s_is_fishing, [], []⟩,
  ⟨("_law_dice", none), "_law_dice", "_law_dice", defArgs s_law_dice, defBody s_law_dice, defScope s_law_dice, [], []⟩,
  ⟨("_law_roll", none), "_law_roll", "_law_roll", defArgs s_law_roll, defBody s_law_roll, defScope s_law_roll, [], []⟩,
  ⟨("_law_pick", none), "_law_pick", "_law_pick", defArgs s_law_pick, defBody s_law_pick, defScope s_law_pick, [], []⟩,
  ⟨("_law_refused", none), "_law_refused", "_law_refused", defArgs s_law_refused, defBody s_law_refused, defScope s_law_refused, [], []⟩,
  ⟨("_law_h_growth", none), "_law_h_growth", "_law_h_growth", defArgs s_law_h_growth, defBody s_law_h_growth, defScope s_law_h_growth, [], []⟩,
  ⟨("_law_h_top", none), "_law_h_top", "_law_h_top", defArgs s_law_h_top, defBody s_law_h_top, defScope s_law_h_top, [], []⟩,
  ⟨("_law_h_fish", none), "_law_h_fish", "_law_h_fish", defArgs s_law_h_fish, defBody s_law_h_fish, defScope s_law_h_fish, [], []⟩,
  ⟨("_law_h_worths", none), "_law_h_worths", "_law_h_worths", defArgs s_law_h_worths, defBody s_law_h_worths, defScope s_law_h_worths, [], []⟩,
  ⟨("_law_is_frac", none), "_law_is_frac", "_law_is_frac", defArgs s_law_is_frac, defBody s_law_is_frac, defScope s_law_is_frac, [], []⟩,
  ⟨("_law_near_fishing", none), "_law_near_fishing", "_law_near_fishing", defArgs s_law_near_fishing, defBody s_law_near_fishing, defScope s_law_near_fishing, [], []⟩,
  ⟨("_law_near_worths", none), "_law_near_worths", "_law_near_worths", defArgs s_law_near_worths, defBody s_law_near_worths, defScope s_law_near_worths, [], []⟩,
  ⟨("_law_more_right", none), "_law_more_right", "_law_more_right", defArgs s_law_more_right, defBody s_law_more_right, defScope s_law_more_right, [], []⟩,
  ⟨("_law_right", none), "_law_right", "_law_right", defArgs s_law_right, defBody s_law_right, defScope s_law_right, [], []⟩,
  ⟨("law", none), "law", "law", defArgs s_law, defBody s_law, defScope s_law, [], []⟩]
def xs : List Hq.XD := [⟨"BadArgument", "name", "BadArgument.__init__", defArgs s_x_BadArgument, defBody s_x_BadArgument, defScope s_x_BadArgument⟩]
def exs (K : PySem.W.Frag) : List Bool := [xcB K (He.ga K "BadArgument") "name", xrB K (He.ga K "BadArgument") (He.ga K "HaulError") true, xrB K (He.ga K "BadArgument") (He.ga K "BadArgument") true, tabB K "_law_right"]
def ex (K : PySem.W.Frag) : Bool := (exs K).all id
def lawAt : Nat := 46
def loose : List PySem.Str := (["HaulError", "ValueError", "BadArgument", "is_integer", "is_in", "is_tuple_of", "are_between", "demand", "divisor", "LEAST_GROWTH", "MOST_GROWTH", "MOST_SEASONS", "is_growth", "demand_stock", "top_of", "top", "walks_of", "lesser", "worst_mean", "best_mean", "for_ever", "worths_of", "worths", "is_worths", "tight_steps", "way_back", "fishing", "are_catches", "stock_behind", "is_fishing"] : List PySem.Str) ++ (["_law_dice", "_law_roll", "_law_pick", "_law_refused", "_law_h_growth", "_law_h_top", "_law_h_fish", "_law_h_worths", "_law_is_frac", "_law_near_fishing", "_law_near_worths", "_law_more_right"] : List PySem.Str)
def at_law_right : Nat := 45
theorem tab_law_right {K : PySem.W.Frag} (c : Hq.obsQ fa fn xs ex thePr K = Hq.valQ fn xs) : ∃ c P, PySem.W.tabIn K "_law_right" = some (c, P) ∧ K.lookup P = none := tabB_ok (List.all_eq_true.mp (Hq.says_ex c) (tabB K "_law_right") (by simp [exs]))
theorem txt_of {w : World} {K : PySem.W.Frag} {h : Heap} {mg : Str → Option Value} (X : K.In h) (G : h.Ns mainGlobals mg) (c : Hq.obsQ fa fn xs ex thePr K = Hq.valQ fn xs) : Txt thePr w K mg := by
  have F : ∀ f, f ∈ fa → f.ok K = true := fun f hf => Hq.facts_d (Hq.says_d c) hf
  have D : ∀ (i : Nat) (d : He.DefD), fn[i]? = some d → ∃ fd, FunD K d.name d.qual d.params d.body d.scope (d.dvs K) (d.kws K) (He.fAd K d.at_) fd := fun i d hd => (Hq.says_d c).def_ i hd
  have E : ∀ b, b ∈ exs K → b = true := fun b hb => List.all_eq_true.mp (Hq.says_ex c) b hb
  exact {
    blt := { b_len := He.free_ok X G (F (.free "len") (by simp [fa])), b_range := He.free_ok X G (F (.free "range") (by simp [fa])), b_isinstance := He.free_ok X G (F (.free "isinstance") (by simp [fa])), b_abs := He.free_ok X G (F (.free "abs") (by simp [fa])), b_int := He.free_ok X G (F (.free "int") (by simp [fa])), b_bool := He.free_ok X G (F (.free "bool") (by simp [fa])), b_str := He.free_ok X G (F (.free "str") (by simp [fa])), b_tuple := He.free_ok X G (F (.free "tuple") (by simp [fa])), b_dict := He.free_ok X G (F (.free "dict") (by simp [fa])), b_list := He.free_ok X G (F (.free "list") (by simp [fa])), b_min := He.free_ok X G (F (.free "min") (by simp [fa])), b_max := He.free_ok X G (F (.free "max") (by simp [fa])), b_any := He.free_ok X G (F (.free "any") (by simp [fa])), b_all := He.free_ok X G (F (.free "all") (by simp [fa])), b_sum := He.free_ok X G (F (.free "sum") (by simp [fa])), b_sorted := He.free_ok X G (F (.free "sorted") (by simp [fa])), b_repr := He.free_ok X G (F (.free "repr") (by simp [fa])), b_zip := He.free_ok X G (F (.free "zip") (by simp [fa])), b_enumerate := He.free_ok X G (F (.free "enumerate") (by simp [fa])) },
    c_LEAST_GROWTH := He.int_ok X G (F (.int "LEAST_GROWTH" 2) (by simp [fa])),
    c_MOST_GROWTH := He.int_ok X G (F (.int "MOST_GROWTH" 31) (by simp [fa])),
    c_MOST_SEASONS := He.int_ok X G (F (.int "MOST_SEASONS" 200) (by simp [fa])),
    d_is_integer := (D 0 ⟨("is_integer", none), "is_integer", "is_integer", defArgs s_is_integer, defBody s_is_integer, defScope s_is_integer, [], []⟩ rfl).elim fun fd h => ⟨_, fd, h, He.glo_ok X G (F (.glo "is_integer") (by simp [fa]))⟩,
    d_is_in := (D 1 ⟨("is_in", none), "is_in", "is_in", defArgs s_is_in, defBody s_is_in, defScope s_is_in, [], []⟩ rfl).elim fun fd h => ⟨_, fd, h, He.glo_ok X G (F (.glo "is_in") (by simp [fa]))⟩,
    d_is_tuple_of := (D 2 ⟨("is_tuple_of", none), "is_tuple_of", "is_tuple_of", defArgs s_is_tuple_of, defBody s_is_tuple_of, defScope s_is_tuple_of, [], []⟩ rfl).elim fun fd h => ⟨_, fd, h, He.glo_ok X G (F (.glo "is_tuple_of") (by simp [fa]))⟩,
    d_are_between := (D 3 ⟨("are_between", none), "are_between", "are_between", defArgs s_are_between, defBody s_are_between, defScope s_are_between, [], []⟩ rfl).elim fun fd h => ⟨_, fd, h, He.glo_ok X G (F (.glo "are_between") (by simp [fa]))⟩,
    d_demand := (D 4 ⟨("demand", none), "demand", "demand", defArgs s_demand, defBody s_demand, defScope s_demand, [], []⟩ rfl).elim fun fd h => ⟨_, fd, h, He.glo_ok X G (F (.glo "demand") (by simp [fa]))⟩,
    d_divisor := (D 5 ⟨("divisor", none), "divisor", "divisor", defArgs s_divisor, defBody s_divisor, defScope s_divisor, [], []⟩ rfl).elim fun fd h => ⟨_, fd, h, He.glo_ok X G (F (.glo "divisor") (by simp [fa]))⟩,
    d_is_growth := (D 6 ⟨("is_growth", none), "is_growth", "is_growth", defArgs s_is_growth, defBody s_is_growth, defScope s_is_growth, [], []⟩ rfl).elim fun fd h => ⟨_, fd, h, He.glo_ok X G (F (.glo "is_growth") (by simp [fa]))⟩,
    d_demand_stock := (D 7 ⟨("demand_stock", none), "demand_stock", "demand_stock", defArgs s_demand_stock, defBody s_demand_stock, defScope s_demand_stock, [], []⟩ rfl).elim fun fd h => ⟨_, fd, h, He.glo_ok X G (F (.glo "demand_stock") (by simp [fa]))⟩,
    d_top_of := (D 8 ⟨("top_of", none), "top_of", "top_of", defArgs s_top_of, defBody s_top_of, defScope s_top_of, [], []⟩ rfl).elim fun fd h => ⟨_, fd, h, He.glo_ok X G (F (.glo "top_of") (by simp [fa]))⟩,
    d_top := (D 9 ⟨("top", none), "top", "top", defArgs s_top, defBody s_top, defScope s_top, [], []⟩ rfl).elim fun fd h => ⟨_, fd, h, He.glo_ok X G (F (.glo "top") (by simp [fa]))⟩,
    d_walks_of := (D 10 ⟨("walks_of", none), "walks_of", "walks_of", defArgs s_walks_of, defBody s_walks_of, defScope s_walks_of, [], []⟩ rfl).elim fun fd h => ⟨_, fd, h, He.glo_ok X G (F (.glo "walks_of") (by simp [fa]))⟩,
    d_lesser := (D 11 ⟨("lesser", none), "lesser", "lesser", defArgs s_lesser, defBody s_lesser, defScope s_lesser, [], []⟩ rfl).elim fun fd h => ⟨_, fd, h, He.glo_ok X G (F (.glo "lesser") (by simp [fa]))⟩,
    d_worst_mean := (D 12 ⟨("worst_mean", none), "worst_mean", "worst_mean", defArgs s_worst_mean, defBody s_worst_mean, defScope s_worst_mean, [], []⟩ rfl).elim fun fd h => ⟨_, fd, h, He.glo_ok X G (F (.glo "worst_mean") (by simp [fa]))⟩,
    d_best_mean := (D 13 ⟨("best_mean", none), "best_mean", "best_mean", defArgs s_best_mean, defBody s_best_mean, defScope s_best_mean, [], []⟩ rfl).elim fun fd h => ⟨_, fd, h, He.glo_ok X G (F (.glo "best_mean") (by simp [fa]))⟩,
    d_for_ever := (D 14 ⟨("for_ever", none), "for_ever", "for_ever", defArgs s_for_ever, defBody s_for_ever, defScope s_for_ever, [], []⟩ rfl).elim fun fd h => ⟨_, fd, h, He.glo_ok X G (F (.glo "for_ever") (by simp [fa]))⟩,
    d_worths_of := (D 15 ⟨("worths_of", none), "worths_of", "worths_of", defArgs s_worths_of, defBody s_worths_of, defScope s_worths_of, [], []⟩ rfl).elim fun fd h => ⟨_, fd, h, He.glo_ok X G (F (.glo "worths_of") (by simp [fa]))⟩,
    d_worths := (D 16 ⟨("worths", none), "worths", "worths", defArgs s_worths, defBody s_worths, defScope s_worths, [], []⟩ rfl).elim fun fd h => ⟨_, fd, h, He.glo_ok X G (F (.glo "worths") (by simp [fa]))⟩,
    d_is_worths := (D 17 ⟨("is_worths", none), "is_worths", "is_worths", defArgs s_is_worths, defBody s_is_worths, defScope s_is_worths, [], []⟩ rfl).elim fun fd h => ⟨_, fd, h, He.glo_ok X G (F (.glo "is_worths") (by simp [fa]))⟩,
    d_tight_steps := (D 18 ⟨("tight_steps", none), "tight_steps", "tight_steps", defArgs s_tight_steps, defBody s_tight_steps, defScope s_tight_steps, [], []⟩ rfl).elim fun fd h => ⟨_, fd, h, He.glo_ok X G (F (.glo "tight_steps") (by simp [fa]))⟩,
    d_way_back := (D 19 ⟨("way_back", none), "way_back", "way_back", defArgs s_way_back, defBody s_way_back, defScope s_way_back, [], []⟩ rfl).elim fun fd h => ⟨_, fd, h, He.glo_ok X G (F (.glo "way_back") (by simp [fa]))⟩,
    d_fishing := (D 20 ⟨("fishing", none), "fishing", "fishing", defArgs s_fishing, defBody s_fishing, defScope s_fishing, [], []⟩ rfl).elim fun fd h => ⟨_, fd, h, He.glo_ok X G (F (.glo "fishing") (by simp [fa]))⟩,
    d_are_catches := (D 21 ⟨("are_catches", none), "are_catches", "are_catches", defArgs s_are_catches, defBody s_are_catches, defScope s_are_catches, [], []⟩ rfl).elim fun fd h => ⟨_, fd, h, He.glo_ok X G (F (.glo "are_catches") (by simp [fa]))⟩,
    d_stock_behind := (D 22 ⟨("stock_behind", none), "stock_behind", "stock_behind", defArgs s_stock_behind, defBody s_stock_behind, defScope s_stock_behind, [], []⟩ rfl).elim fun fd h => ⟨_, fd, h, He.glo_ok X G (F (.glo "stock_behind") (by simp [fa]))⟩,
    d_is_fishing := (D 23 ⟨("is_fishing", none), "is_fishing", "is_fishing", defArgs s_is_fishing, defBody s_is_fishing, defScope s_is_fishing, [], []⟩ rfl).elim fun fd h => ⟨_, fd, h, He.glo_ok X G (F (.glo "is_fishing") (by simp [fa]))⟩,
    d_law_dice := (D 24 ⟨("_law_dice", none), "_law_dice", "_law_dice", defArgs s_law_dice, defBody s_law_dice, defScope s_law_dice, [], []⟩ rfl).elim fun fd h => ⟨_, fd, h, He.glo_ok X G (F (.glo "_law_dice") (by simp [fa]))⟩,
    d_law_roll := (D 25 ⟨("_law_roll", none), "_law_roll", "_law_roll", defArgs s_law_roll, defBody s_law_roll, defScope s_law_roll, [], []⟩ rfl).elim fun fd h => ⟨_, fd, h, He.glo_ok X G (F (.glo "_law_roll") (by simp [fa]))⟩,
    d_law_pick := (D 26 ⟨("_law_pick", none), "_law_pick", "_law_pick", defArgs s_law_pick, defBody s_law_pick, defScope s_law_pick, [], []⟩ rfl).elim fun fd h => ⟨_, fd, h, He.glo_ok X G (F (.glo "_law_pick") (by simp [fa]))⟩,
    d_law_refused := (D 27 ⟨("_law_refused", none), "_law_refused", "_law_refused", defArgs s_law_refused, defBody s_law_refused, defScope s_law_refused, [], []⟩ rfl).elim fun fd h => ⟨_, fd, h, He.glo_ok X G (F (.glo "_law_refused") (by simp [fa]))⟩,
    d_law_h_growth := (D 28 ⟨("_law_h_growth", none), "_law_h_growth", "_law_h_growth", defArgs s_law_h_growth, defBody s_law_h_growth, defScope s_law_h_growth, [], []⟩ rfl).elim fun fd h => ⟨_, fd, h, He.glo_ok X G (F (.glo "_law_h_growth") (by simp [fa]))⟩,
    d_law_h_top := (D 29 ⟨("_law_h_top", none), "_law_h_top", "_law_h_top", defArgs s_law_h_top, defBody s_law_h_top, defScope s_law_h_top, [], []⟩ rfl).elim fun fd h => ⟨_, fd, h, He.glo_ok X G (F (.glo "_law_h_top") (by simp [fa]))⟩,
    d_law_h_fish := (D 30 ⟨("_law_h_fish", none), "_law_h_fish", "_law_h_fish", defArgs s_law_h_fish, defBody s_law_h_fish, defScope s_law_h_fish, [], []⟩ rfl).elim fun fd h => ⟨_, fd, h, He.glo_ok X G (F (.glo "_law_h_fish") (by simp [fa]))⟩,
    d_law_h_worths := (D 31 ⟨("_law_h_worths", none), "_law_h_worths", "_law_h_worths", defArgs s_law_h_worths, defBody s_law_h_worths, defScope s_law_h_worths, [], []⟩ rfl).elim fun fd h => ⟨_, fd, h, He.glo_ok X G (F (.glo "_law_h_worths") (by simp [fa]))⟩,
    d_law_is_frac := (D 32 ⟨("_law_is_frac", none), "_law_is_frac", "_law_is_frac", defArgs s_law_is_frac, defBody s_law_is_frac, defScope s_law_is_frac, [], []⟩ rfl).elim fun fd h => ⟨_, fd, h, He.glo_ok X G (F (.glo "_law_is_frac") (by simp [fa]))⟩,
    d_law_near_fishing := (D 33 ⟨("_law_near_fishing", none), "_law_near_fishing", "_law_near_fishing", defArgs s_law_near_fishing, defBody s_law_near_fishing, defScope s_law_near_fishing, [], []⟩ rfl).elim fun fd h => ⟨_, fd, h, He.glo_ok X G (F (.glo "_law_near_fishing") (by simp [fa]))⟩,
    d_law_near_worths := (D 34 ⟨("_law_near_worths", none), "_law_near_worths", "_law_near_worths", defArgs s_law_near_worths, defBody s_law_near_worths, defScope s_law_near_worths, [], []⟩ rfl).elim fun fd h => ⟨_, fd, h, He.glo_ok X G (F (.glo "_law_near_worths") (by simp [fa]))⟩,
    d_law_more_right := (D 35 ⟨("_law_more_right", none), "_law_more_right", "_law_more_right", defArgs s_law_more_right, defBody s_law_more_right, defScope s_law_more_right, [], []⟩ rfl).elim fun fd h => ⟨_, fd, h, He.glo_ok X G (F (.glo "_law_more_right") (by simp [fa]))⟩,
    d_law_right := (D 36 ⟨("_law_right", none), "_law_right", "_law_right", defArgs s_law_right, defBody s_law_right, defScope s_law_right, [], []⟩ rfl).elim fun fd h => ⟨_, fd, h, He.glo_ok X G (F (.glo "_law_right") (by simp [fa]))⟩,
    d_law := (D 37 ⟨("law", none), "law", "law", defArgs s_law, defBody s_law, defScope s_law, [], []⟩ rfl).elim fun fd h => ⟨_, fd, h, He.glo_ok X G (F (.glo "law") (by simp [fa]))⟩,
    g_HaulError := He.glo_ok X G (F (.glo "HaulError") (by simp [fa])),
    g_BadArgument := He.glo_ok X G (F (.glo "BadArgument") (by simp [fa])),
    xc_BadArgument := xcB_ok (E _ (by simp [exs])),
    xr_BadArgument_HaulError := xrB_ok (E _ (by simp [exs])),
    xr_BadArgument_BadArgument := xrB_ok (E _ (by simp [exs])),
    x_BadArgument := xsok_name (Hq.txtB_ok X G nm_name (Hq.says_x c (d := ⟨"BadArgument", "name", "BadArgument.__init__", defArgs s_x_BadArgument, defBody s_x_BadArgument, defScope s_x_BadArgument⟩) (by simp [xs])).1 (Hq.says_x c (d := ⟨"BadArgument", "name", "BadArgument.__init__", defArgs s_x_BadArgument, defBody s_x_BadArgument, defScope s_x_BadArgument⟩) (by simp [xs])).2 rfl rfl rfl (by decide)) }
abbrev R : PySem.W.OpenRow := PySem.W.OpenLaw.row PySem.Challenge.rw_surehaul_k00_whole_sure_for_ever
abbrev hk : PySem.W.Hook := Hq.hookT 5 fa fn xs ex thePr
def ob (s : PySem.W.SharedT) : Hq.AlQ := Hq.obsQ fa fn xs ex thePr (Hq.frT 5 (HandSHeadRun.getT s))
theorem ob_eq (s : PySem.W.SharedT) : ob s = hk.obs s.abs := by
  have e : (HandSHeadRun.getT s) = s.abs.heap.get? := funext fun a => HandSHeadRun.getT_eq s a
  unfold ob
  rw [e]
  rfl
theorem hdRun (w : World) : HandSHeadRun.RunEq R (PySem.W.view R.prog [at_law_right, lawAt]) hk ob 4000 loose w := by
  intro os
  kernel_rfl
end SH
end

section
/-! #### the walk's words -/
local macro_rules | `(tactic| walk_at "ne0") => `(tactic| first
  | assumption
  | (refine Ne.symm ?_; assumption))
local macro_rules | `(tactic| walk_at "ne") => `(tactic| first
  | assumption
  | (refine Ne.symm ?_; assumption)
  | (refine' L2.ne_of_none ?gx (by assumption); (case gx => walk_at "hp"))
  | (refine' Ne.symm (L2.ne_of_none ?gx (by assumption)); (case gx => walk_at "hp")))
local macro_rules | `(tactic| walk_at "hp") => `(tactic| first
  | assumption
  | exact L2.upd_same
  | (refine' SH.upd_new ?gh (by assumption); (case gh => walk_at "hp"))
  | (refine' (L2.upd_ne ?gn).trans ?gh; (case gn => walk_at "ne0"); (case gh => walk_at "hp"))
  | (refine' SH.Off.at (by assumption) ?gn ?gh; (case gn => walk_at "nin"); (case gh => walk_at "hp")))
local macro_rules | `(tactic| walk_at "nin") => `(tactic| first
  | exact SH.nin_nil
  | (refine SH.nin_cons ?_ ?_; (· walk_at "ne0"); (· walk_at "nin")))
local macro_rules | `(tactic| walk_at "sq") => `(tactic| first
  | assumption
  | (apply L2.SqL.of; (· walk_at "hp"))
  | (apply L2.SqT.of; (· walk_at "hp"))
  | (refine' SH.seqT_new ?gx (by assumption); (case gx => walk_at "sq"))
  | (refine' SH.seqL_new ?gx (by assumption); (case gx => walk_at "sq"))
  | (refine' SH.Off.seqT (by assumption) ?gx; (case gx => walk_at "sq"))
  | (refine' SH.Off.seqL (by assumption) ?gy ?gx; (case gx => walk_at "sq"); (case gy => walk_at "nin")))
local macro_rules | `(tactic| walk_at "kd") => `(tactic| first
  | assumption | exact SH.KdV.int _ | exact SH.KdV.bl _ | exact SH.KdV.str _ | exact SH.KdV.non
  | (apply SH.KdV.tup; (· walk_at "sq")) | (apply SH.KdV.lst; (· walk_at "sq")))
/-- a way that cannot be -/
local macro_rules | `(tactic| walk_at "no") => `(tactic| (exfalso; first | assumption | omega | contradiction | (simp_all; done)))
/-- one step -/
local macro_rules | `(tactic| walk_at "g1") => `(tactic| with_reducible first
  | refine SH.g_var (by with_unfolding_all rfl) ?_ | refine SH.g_c ?_ | refine SH.g_op ?_ | refine SH.g_un ?_ | refine SH.g_I0 ?_ | refine SH.g_U ?_
  | refine SH.g_eqI ?_ | refine SH.g_neI ?_ | refine SH.g_eqS ?_ | refine SH.g_neS ?_
  | refine SH.g_test ?_ | refine SH.g_B ?_ | refine SH.g_isB ?_ | refine SH.g_and ?_ | refine SH.g_or ?_ | refine SH.g_not ?_ | refine SH.g_andV ?_ | refine SH.g_orV ?_ | refine SH.g_notV ?_ | refine SH.g_ifE ?_ | refine SH.g_chain ?_
  | refine SH.g_nil ?_ | refine SH.g_cons ?_ | refine SH.g_tup ?_ | refine SH.g_lst ?_ | refine SH.g_call ?_ | refine SH.g_fld ?_ | refine SH.g_meth ?_ | refine SH.g_make ?_ | refine SH.g_cb ?_ | refine SH.g_bm ?_
  | refine SH.g_seq ?_ | refine SH.g_asg ?_ | refine SH.g_name ?_ | refine SH.g_drop ?_ | refine SH.g_ret ?_ | refine SH.g_retN ?_ | refine SH.g_next ?_ | refine SH.g_brk ?_ | refine SH.g_cnt ?_ | refine SH.g_ifs ?_ | refine SH.g_par ?_ | refine SH.g_par2 ?_ | refine SH.g_fldS ?_ | refine SH.g_raise ?_ | refine SH.g_rs ?_
  | refine SH.g_sub ?_ | refine SH.g_yes ?_ | refine SH.g_sl ?_ | refine SH.g_noPart ?_ | refine SH.g_part ?_ | refine SH.g_intO ?_ | refine SH.g_dget ?_ | refine SH.g_dput ?_ | refine SH.g_forR ?_ | refine SH.g_forL ?_ | refine SH.g_forT ?_ | refine SH.g_lcR ?_ | refine SH.g_lcL ?_ | refine SH.g_lcT ?_ | refine SH.g_gcons ?_ | refine SH.g_gnil ?_
  | refine SH.br_t ?_ | refine SH.br_f ?_
  | refine SH.g_int ?_ | refine SH.g_abs ?_ | refine SH.g_max2 ?_ | refine SH.g_min2 ?_)
local macro_rules | `(tactic| walk_at "g2") => `(tactic| first
  | walk_at "g1"
  | ((with_reducible refine' SH.g_isiInt ?ga ?gz); (case ga => walk_at "kd"))
  | ((with_reducible refine' SH.g_isiBool ?ga ?gz); (case ga => walk_at "kd"))
  | ((with_reducible refine' SH.g_isiStr ?ga ?gz); (case ga => walk_at "kd"))
  | ((with_reducible refine' SH.g_isiTup ?ga ?gz); (case ga => walk_at "kd"))
  | ((with_reducible refine' SH.g_ixT ?ga ?gb ?gz); (case ga => walk_at "sq"); (case gb => rfl))
  | ((with_reducible refine' SH.g_ixL ?ga ?gb ?gz); (case ga => walk_at "sq"); (case gb => first | rfl | (apply SH.atI_refs; assumption)))
  | ((with_reducible refine SH.br_F ?_ ?_); (· decide +kernel)) | ((with_reducible refine SH.br_T ?_ ?_); (· decide +kernel)) | ((with_reducible refine SH.br_NF ?_ ?_); (· decide +kernel)) | ((with_reducible refine SH.br_NT ?_ ?_); (· decide +kernel))
  | ((with_reducible refine' SH.g_gtup ?ga ?gb ?gz); (case ga => walk_at "sq"); (case gb => rfl))
  | ((with_reducible refine' SH.g_lenT ?ga ?gz); (case ga => walk_at "sq"))
  | ((with_reducible refine' SH.g_lenL ?ga ?gz); (case ga => walk_at "sq"))
  | ((with_reducible refine SH.g_mkT (SH.sz rfl) ?_); intro _ _)
  | ((with_reducible refine SH.g_mkL (SH.sz rfl) ?_); intro _ _)
  | ((with_reducible refine SH.g_dnew ?_); intro _ _)
  | ((with_reducible refine' SH.g_tupL ?ga ?gz); (case ga => walk_at "sq"); intro _ _)
  | ((with_reducible refine' SH.g_lstL ?ga ?gz); (case ga => walk_at "sq"); intro _ _)
  | ((with_reducible refine' SH.g_lstT ?ga ?gz); (case ga => walk_at "sq"); intro _ _)
  | ((with_reducible refine' SH.g_dgR ?ga ?gb ?gz); (case ga => walk_at "hp"); (case gb => walk_at "dv"))
  | ((with_reducible refine' SH.g_fldR ?ga ?gb ?gc ?gd ?gz); (case ga => walk_at "hp"); (case gb => walk_at "cl"); (case gc => walk_at "na"); (case gd => walk_at "fv"))
  | ((with_reducible refine' SH.g_insR ?ga ?gb ?gz); (case ga => walk_at "hp"); (case gb => walk_at "fn"))
  | ((with_reducible refine' SH.g_setL ?ga ?gb ?gz); (case ga => walk_at "hp"); (case gb => rfl))
  | ((with_reducible refine SH.g_I ?_ ?_); (· walk_at "ci"))
  | ((with_reducible refine' SH.g_slL ?ga ?gz); (case ga => walk_at "sq"); intro _ _)
  | ((with_reducible refine' SH.g_cat ?ga ?gb ?gc ?gz); (case ga => walk_at "hp"); (case gb => walk_at "hp"); (case gc => walk_at "ls"); intro _ _))
/-- the side conditions of numbers: a divisor, a factor -/
local macro_rules | `(tactic| walk_at "ci") => `(tactic| first
  | (show _ ≠ _; omega) | (show _ < _; omega) | (constructor <;> omega) | (refine Or.inr ⟨?_, ?_⟩ <;> (show _ < _; omega)) | (refine Or.inl ⟨?_, ?_⟩ <;> (show _ < _; omega)) | (refine ⟨?_, ?_, ?_⟩ <;> decide))
local macro_rules | `(tactic| walk_at "ls") => `(tactic| first | (show _ ≤ _; exact Nat.le_trans (by assumption) (by decide)) | (show _ ≤ _; exact Nat.le_trans (by simp; omega) (by decide : 1000 ≤ sizeLine)))
local macro_rules | `(tactic| walk_at "dv") => `(tactic| rfl)
local macro_rules | `(tactic| walk_at "fv") => `(tactic| rfl)
local macro_rules | `(tactic| walk_at "fn") => `(tactic| rfl)
local macro_rules | `(tactic| walk_at "cl") => `(tactic| assumption)
local macro_rules | `(tactic| walk_at "na") => `(tactic| assumption)
local macro_rules | `(tactic| walk_at "go") => `(tactic| repeat walk_at "g2")
/-- a way is split -/
local macro_rules | `(tactic| walk_at "br") => `(tactic| with_reducible first
  | refine SH.br_d (fun _ => ?_) (fun _ => ?_) | refine SH.br_nd (fun _ => ?_) (fun _ => ?_) | refine SH.br_b (fun _ => ?_) (fun _ => ?_))
/-- all ways -/
local macro_rules | `(tactic| walk_at "all") => `(tactic| repeat' first | walk_at "g2" | (walk_at "br" <;> try (walk_at "no")))
/-- a truth value is the other -/
local macro_rules | `(tactic| walk_at "bq") => `(tactic| first | rfl | (simp_all; done) | (simp_all; omega) | (simp only [decide_eq_true_eq, decide_eq_false_iff_not, Bool.and_eq_true, Bool.or_eq_true] at *; omega))
/-- what was tracked is as it was -/
local macro_rules | `(tactic| walk_at "of") => `(tactic| first
  | assumption
  | exact SH.Off.refl _ _
  | (refine' SH.Off.new2 ?gx (by assumption); (case gx => walk_at "of"))
  | (refine' SH.Off.mut ?gx (by assumption); (case gx => walk_at "of"))
  | (refine' SH.Off.trans' ?gx (by assumption) ?gy; (case gy => (intro _ h; (first | exact h | (simp at h; done) | (simp at h ⊢; simp [h]; done)))); (case gx => walk_at "of")))
namespace SH
open PySem PySem.Spec PyProof.Rows L2 LamX
section
variable {X : Cx} {K : PySem.W.Frag} {x n : Str} {c : Value} {i : Nat} {body suite : List Stmt} {b₀ : Stmt} {np pos pos' : Pos} {tb : WX → TS} {ts : Addr → Value → Option Addr → TS} {Wout : WX}
/-- ps_tryAs where the exceptions may bear a context -/
theorem ps_tryAsC (hK : X.K = K) (hs : X.stack = X.env :: X.outer) (hf : X.env.frame = some X.env.locals) (hN : X.N.Nodup) (hi : X.N[i]? = some n) (hln : X.env.kindOf n = some .local) (hc : Names X x c) (tk : L2.Takes X Wout)
    (hb : ∀ (W : WX) (pn : List (Addr × Obj)) (xe : Value → Shared → Prop), L2.Takes (X.tr pn xe) W → PassesOwn (model X.prog X.w) X.A X.env xe → PSs (X.tr pn xe) body (tb W))
    (hsu : ∀ (a : Addr) (oe : Obj) (cls : Value) (d : Option Addr) (pn : List (Addr × Obj)), Zc cls d oe → (∃ vs, oe.data = .fields vs) → PSs (X.suite a ((a, oe) :: pn)) (b₀ :: suite) (ts a cls d)) :
    PS X (.Try body [.ExceptHandler (some (.Name x np)) (some n) (b₀ :: suite) pos'] [] [] pos) (tTryAs K c i tb ts Wout) := by
  subst hK
  exact L2.ps_try_as hs hf hN hi hln hc tk hb hsu
end
section
variable {P : Program} {w : World} {K : PySem.W.Frag} {mg : Str → Option Value} {base : Heap}
theorem gets_refused (T : Txt P w K mg) : ∃ g cdv, GetsL K mg "_law_refused" "call" ["call", "e"] (defScope s_law_refused) (defBody s_law_refused) g cdv := by
  obtain ⟨f, fd, F, hm⟩ := T.d_law_refused
  have hb := F.bindsN (ps := ["call"]) (fun _ _ _ _ _ _ us hl => match us, hl with | [_], _ => rfl)
  have hk := F.kp
  obtain ⟨oc, od, dV, kV, doc, pm, an, cdv, ct, osl, rfl, lk, hc, _, _⟩ := F.ex
  exact ⟨f, cdv, hm, hk, ⟨oc, od, _, dV, kV, doc, pm, an, ct, osl, lk, hb⟩, hc, sc_law_refused, rfl, .inl rfl⟩
theorem refused_gives {X : Cx} {g CS : Addr} {cdg : Value} {q : Str} (hme : X.mg "BadArgument" = some (.ref CS)) (xc : XcOk X.K CS "name") (xr : XrOk X.K CS CS true) :
    GivesTo X ["call", "e"] "_law_refused" (defScope s_law_refused) g cdg (defBody s_law_refused) "call" q (TTref CS "name") := by
  intro f c' s H Q tl act hc h
  refine ⟨_, pss_cons (ps_tryAsC (X := (cxOf C8.CX0 X.prog X.w X.K X.mg X.base ["call", "e"] "_law_refused" (defScope s_law_refused) g cdg X.A X.stack s H C8.E0).nox) (K := X.K) (i := 1) (c := .ref CS)
      (tb := fun W D σ H => ∃ Ech : XK, (∀ cls d σ' H', Ech cls d H' → W cls d σ' H') ∧ σ[0]? = some (some (.ref f)) ∧ H c' = some (CodeO c' q) ∧ tl Ech H fun _ H' => D.nx σ H')
      rfl rfl rfl sc_law_refused.nd rfl rfl ⟨rfl, by decide, .inl hme⟩ LamX.takes0 (fun W pn xe tk _ => ?_) (fun a oe cls d pn hz hf => pss_one (ps_ret (pe_xf (te := tVarL 2 1 (.ref a)) xc.xf xc.nf hz hf (by exact pe_varL (v := .ref a) (pv 1)))))) (pss_one (ps_ret pe_str)), ?_⟩
  · refine ⟨fun pins s' σ H' D I h' => ?_⟩
    obtain ⟨Ech, hW, h1, h2, h3⟩ := h'
    exact (pss_one (ps_expr (act W pn xe Ech _ _ tk hW))).run pins s' σ H' D I ⟨h1, h2, h3⟩
  · refine ⟨_, ?_, rfl, hc, h⟩
    rintro cls d σ' H' ⟨dd, v, rfl, rfl, hd, q'⟩
    refine ⟨true, xr.ex, fun _ a ha => ?_, fun z => Bool.noConfusion z⟩
    exact ⟨fun hl => List.getElem?_set_self (by rw [List.length_set] at hl; rw [hl]; decide), rfl, rfl, dd, _, v, rfl, hd, by kernel_rfl, q'⟩
end
end SH
end

section
/-! #### the walk's words -/
local macro_rules | `(tactic| walk_at "ne0") => `(tactic| first
  | assumption
  | (refine Ne.symm ?_; assumption))
local macro_rules | `(tactic| walk_at "ne") => `(tactic| first
  | assumption
  | (refine Ne.symm ?_; assumption)
  | (refine' L2.ne_of_none ?gx (by assumption); (case gx => walk_at "hp"))
  | (refine' Ne.symm (L2.ne_of_none ?gx (by assumption)); (case gx => walk_at "hp")))
local macro_rules | `(tactic| walk_at "hp") => `(tactic| first
  | assumption
  | exact L2.upd_same
  | (refine' SH.upd_new ?gh (by assumption); (case gh => walk_at "hp"))
  | (refine' (L2.upd_ne ?gn).trans ?gh; (case gn => walk_at "ne0"); (case gh => walk_at "hp"))
  | (refine' SH.Off.at (by assumption) ?gn ?gh; (case gn => walk_at "nin"); (case gh => walk_at "hp")))
local macro_rules | `(tactic| walk_at "nin") => `(tactic| first
  | exact SH.nin_nil
  | (refine SH.nin_cons ?_ ?_; (· walk_at "ne0"); (· walk_at "nin")))
local macro_rules | `(tactic| walk_at "sq") => `(tactic| first
  | assumption
  | (apply L2.SqL.of; (· walk_at "hp"))
  | (apply L2.SqT.of; (· walk_at "hp"))
  | (refine' SH.seqT_new ?gx (by assumption); (case gx => walk_at "sq"))
  | (refine' SH.seqL_new ?gx (by assumption); (case gx => walk_at "sq"))
  | (refine' SH.Off.seqT (by assumption) ?gx; (case gx => walk_at "sq"))
  | (refine' SH.Off.seqL (by assumption) ?gy ?gx; (case gx => walk_at "sq"); (case gy => walk_at "nin")))
local macro_rules | `(tactic| walk_at "kd") => `(tactic| first
  | assumption | exact SH.KdV.int _ | exact SH.KdV.bl _ | exact SH.KdV.str _ | exact SH.KdV.non
  | (apply SH.KdV.tup; (· walk_at "sq")) | (apply SH.KdV.lst; (· walk_at "sq")))
/-- a way that cannot be -/
local macro_rules | `(tactic| walk_at "no") => `(tactic| (exfalso; first | assumption | omega | contradiction | (simp_all; done)))
/-- one step -/
local macro_rules | `(tactic| walk_at "g1") => `(tactic| with_reducible first
  | refine SH.g_var (by with_unfolding_all rfl) ?_ | refine SH.g_c ?_ | refine SH.g_op ?_ | refine SH.g_un ?_ | refine SH.g_I0 ?_ | refine SH.g_U ?_
  | refine SH.g_eqI ?_ | refine SH.g_neI ?_ | refine SH.g_eqS ?_ | refine SH.g_neS ?_
  | refine SH.g_test ?_ | refine SH.g_B ?_ | refine SH.g_isB ?_ | refine SH.g_and ?_ | refine SH.g_or ?_ | refine SH.g_not ?_ | refine SH.g_andV ?_ | refine SH.g_orV ?_ | refine SH.g_notV ?_ | refine SH.g_ifE ?_ | refine SH.g_chain ?_
  | refine SH.g_nil ?_ | refine SH.g_cons ?_ | refine SH.g_tup ?_ | refine SH.g_lst ?_ | refine SH.g_call ?_ | refine SH.g_fld ?_ | refine SH.g_meth ?_ | refine SH.g_make ?_ | refine SH.g_cb ?_ | refine SH.g_bm ?_
  | refine SH.g_seq ?_ | refine SH.g_asg ?_ | refine SH.g_name ?_ | refine SH.g_drop ?_ | refine SH.g_ret ?_ | refine SH.g_retN ?_ | refine SH.g_next ?_ | refine SH.g_brk ?_ | refine SH.g_cnt ?_ | refine SH.g_ifs ?_ | refine SH.g_par ?_ | refine SH.g_par2 ?_ | refine SH.g_fldS ?_ | refine SH.g_raise ?_ | refine SH.g_rs ?_
  | refine SH.g_sub ?_ | refine SH.g_yes ?_ | refine SH.g_sl ?_ | refine SH.g_noPart ?_ | refine SH.g_part ?_ | refine SH.g_intO ?_ | refine SH.g_dget ?_ | refine SH.g_dput ?_ | refine SH.g_forR ?_ | refine SH.g_forL ?_ | refine SH.g_forT ?_ | refine SH.g_lcR ?_ | refine SH.g_lcL ?_ | refine SH.g_lcT ?_ | refine SH.g_gcons ?_ | refine SH.g_gnil ?_
  | refine SH.br_t ?_ | refine SH.br_f ?_
  | refine SH.g_int ?_ | refine SH.g_abs ?_ | refine SH.g_max2 ?_ | refine SH.g_min2 ?_)
local macro_rules | `(tactic| walk_at "g2") => `(tactic| first
  | walk_at "g1"
  | ((with_reducible refine' SH.g_isiInt ?ga ?gz); (case ga => walk_at "kd"))
  | ((with_reducible refine' SH.g_isiBool ?ga ?gz); (case ga => walk_at "kd"))
  | ((with_reducible refine' SH.g_isiStr ?ga ?gz); (case ga => walk_at "kd"))
  | ((with_reducible refine' SH.g_isiTup ?ga ?gz); (case ga => walk_at "kd"))
  | ((with_reducible refine' SH.g_ixT ?ga ?gb ?gz); (case ga => walk_at "sq"); (case gb => rfl))
  | ((with_reducible refine' SH.g_ixL ?ga ?gb ?gz); (case ga => walk_at "sq"); (case gb => first | rfl | (apply SH.atI_refs; assumption)))
  | ((with_reducible refine SH.br_F ?_ ?_); (· decide +kernel)) | ((with_reducible refine SH.br_T ?_ ?_); (· decide +kernel)) | ((with_reducible refine SH.br_NF ?_ ?_); (· decide +kernel)) | ((with_reducible refine SH.br_NT ?_ ?_); (· decide +kernel))
  | ((with_reducible refine' SH.g_gtup ?ga ?gb ?gz); (case ga => walk_at "sq"); (case gb => rfl))
  | ((with_reducible refine' SH.g_lenT ?ga ?gz); (case ga => walk_at "sq"))
  | ((with_reducible refine' SH.g_lenL ?ga ?gz); (case ga => walk_at "sq"))
  | ((with_reducible refine SH.g_mkT (SH.sz rfl) ?_); intro _ _)
  | ((with_reducible refine SH.g_mkL (SH.sz rfl) ?_); intro _ _)
  | ((with_reducible refine SH.g_dnew ?_); intro _ _)
  | ((with_reducible refine' SH.g_tupL ?ga ?gz); (case ga => walk_at "sq"); intro _ _)
  | ((with_reducible refine' SH.g_lstL ?ga ?gz); (case ga => walk_at "sq"); intro _ _)
  | ((with_reducible refine' SH.g_lstT ?ga ?gz); (case ga => walk_at "sq"); intro _ _)
  | ((with_reducible refine' SH.g_dgR ?ga ?gb ?gz); (case ga => walk_at "hp"); (case gb => walk_at "dv"))
  | ((with_reducible refine' SH.g_fldR ?ga ?gb ?gc ?gd ?gz); (case ga => walk_at "hp"); (case gb => walk_at "cl"); (case gc => walk_at "na"); (case gd => walk_at "fv"))
  | ((with_reducible refine' SH.g_insR ?ga ?gb ?gz); (case ga => walk_at "hp"); (case gb => walk_at "fn"))
  | ((with_reducible refine' SH.g_setL ?ga ?gb ?gz); (case ga => walk_at "hp"); (case gb => rfl))
  | ((with_reducible refine SH.g_I ?_ ?_); (· walk_at "ci"))
  | ((with_reducible refine' SH.g_slL ?ga ?gz); (case ga => walk_at "sq"); intro _ _)
  | ((with_reducible refine' SH.g_cat ?ga ?gb ?gc ?gz); (case ga => walk_at "hp"); (case gb => walk_at "hp"); (case gc => walk_at "ls"); intro _ _))
/-- the side conditions of numbers: a divisor, a factor -/
local macro_rules | `(tactic| walk_at "ci") => `(tactic| first
  | (show _ ≠ _; omega) | (show _ < _; omega) | (constructor <;> omega) | (refine Or.inr ⟨?_, ?_⟩ <;> (show _ < _; omega)) | (refine Or.inl ⟨?_, ?_⟩ <;> (show _ < _; omega)) | (refine ⟨?_, ?_, ?_⟩ <;> decide))
local macro_rules | `(tactic| walk_at "ls") => `(tactic| first | (show _ ≤ _; exact Nat.le_trans (by assumption) (by decide)) | (show _ ≤ _; exact Nat.le_trans (by simp; omega) (by decide : 1000 ≤ sizeLine)))
local macro_rules | `(tactic| walk_at "dv") => `(tactic| rfl)
local macro_rules | `(tactic| walk_at "fv") => `(tactic| rfl)
local macro_rules | `(tactic| walk_at "fn") => `(tactic| rfl)
local macro_rules | `(tactic| walk_at "cl") => `(tactic| assumption)
local macro_rules | `(tactic| walk_at "na") => `(tactic| assumption)
local macro_rules | `(tactic| walk_at "go") => `(tactic| repeat walk_at "g2")
/-- a way is split -/
local macro_rules | `(tactic| walk_at "br") => `(tactic| with_reducible first
  | refine SH.br_d (fun _ => ?_) (fun _ => ?_) | refine SH.br_nd (fun _ => ?_) (fun _ => ?_) | refine SH.br_b (fun _ => ?_) (fun _ => ?_))
/-- all ways -/
local macro_rules | `(tactic| walk_at "all") => `(tactic| repeat' first | walk_at "g2" | (walk_at "br" <;> try (walk_at "no")))
/-- a truth value is the other -/
local macro_rules | `(tactic| walk_at "bq") => `(tactic| first | rfl | (simp_all; done) | (simp_all; omega) | (simp only [decide_eq_true_eq, decide_eq_false_iff_not, Bool.and_eq_true, Bool.or_eq_true] at *; omega))
/-- what was tracked is as it was -/
local macro_rules | `(tactic| walk_at "of") => `(tactic| first
  | assumption
  | exact SH.Off.refl _ _
  | (refine' SH.Off.new2 ?gx (by assumption); (case gx => walk_at "of"))
  | (refine' SH.Off.mut ?gx (by assumption); (case gx => walk_at "of"))
  | (refine' SH.Off.trans' ?gx (by assumption) ?gy; (case gy => (intro _ h; (first | exact h | (simp at h; done) | (simp at h ⊢; simp [h]; done)))); (case gx => walk_at "of")))
namespace SH
open PySem PySem.Spec PyProof.Rows L2
/-! ### the law's dice -/
/-- the dice at a: at most c rolls were counted -/
def DiceAt (H : Hp) (a : Addr) (c : Int) : Prop := ∃ x y z : Int, H a = some (.lst [.int x, .int y, .int z]) ∧ 0 ≤ x ∧ 0 ≤ y ∧ y < 2147480009 ∧ 0 ≤ z ∧ z ≤ c
theorem DiceAt.mono {H : Hp} {a : Addr} {c c' : Int} (h : DiceAt H a c) (k : c ≤ c') : DiceAt H a c' := by
  obtain ⟨x, y, z, h1, h2, h3, h4, h5, h6⟩ := h
  exact ⟨x, y, z, h1, h2, h3, h4, h5, Int.le_trans h6 k⟩
theorem DiceAt.off {H H' : Hp} {a : Addr} {c : Int} {S : List Addr} (h : DiceAt H a c) (o : Off S H H') (n : a ∉ S) : DiceAt H' a c := by
  obtain ⟨x, y, z, h1, r⟩ := h
  exact ⟨x, y, z, o.at n h1, r⟩
def spRoll : Sp := fun vs H Q _ => ∃ a n c, vs = [.ref a, .int n] ∧ DiceAt H a c ∧ c ≤ 1000000000 ∧ 0 < n ∧ n < 1073741824 ∧ ∀ r H', 0 ≤ r → r < n → DiceAt H' a (c + 1) → Off [a] H H' → Q (.int r) H'
def spPick (K : PySem.W.Frag) : Sp := fun vs H Q _ => ∃ a l c xs, vs = [.ref a, .ref l] ∧ DiceAt H a c ∧ c ≤ 1000000000 ∧ SqL K H l xs ∧ 0 < xs.length ∧ xs.length < 1000 ∧ a ≠ l ∧ ∀ v H', v ∈ xs → DiceAt H' a (c + 1) → Off [a] H H' → Q v H'
def spDice (K : PySem.W.Frag) : Sp := fun vs H Q _ => ∃ (a : Addr) (spot : Int) (ns : List Int), vs = [.ref a, .int spot] ∧ SqL K H a (ns.map V.int) ∧ ns.length ≤ 63 ∧ 0 ≤ spot ∧ spot < 1000 ∧ ∀ p H', H p = none → DiceAt H' p 0 → Off [] H H' → Q (.ref p) H'
section
variable {P : Program} {w : World} {K : PySem.W.Frag} {mg : Str → Option Value} {base : Heap}
theorem ok_law_roll (T : Txt P w K mg) : DefOk P w K mg base "_law_roll" 1 ["dice", "total"] spRoll := by
  refine T.d_law_roll.ok sc_law_roll (fun _ _ _ _ _ _ us hl => match us, hl with | [_, _], _ => rfl) (fun vs H Q E h => ?_) (fun f cdv A outer s H vs Q E hr h => ?_)
  · obtain ⟨a, n, c, rfl, _⟩ := h
    rfl
  · obtain ⟨a, n, c, rfl, ⟨x, y, z, h1, h2, h3, h4, h5, h6⟩, hc, hn, hn2, q⟩ := h
    have B := T.blt
    have hu := hu_of hr
    refine ⟨_, (pss_cons (ps_if (pt_cmpR op_gt (pe_ix (ix_listK (K := K) rfl) (pv 0) pe_int (fun _ _ => rfl)) pe_int (nomark _))
    (pss_cons (ps_set (i := 2) sc_law_roll.nd rfl (by first | exact Or.inl rfl | exact Or.inr rfl) (pe_op op_modN (pe_callTy c_int (by rfl) B.b_int (by decide +kernel) (pa_cons (pe_ix (ix_listK (K := K) rfl) (pv 0) pe_int (fun _ _ => rfl)) pa_nil)) (pv 1)))
  (pss_cons (ps_asg (pe_op op_fdivN (pe_ix (ix_listK (K := K) rfl) (pv 0) pe_int (fun _ _ => rfl)) (pv 1)) (pg_sub (pv 0) pe_int set_list))
  (pss_one (ps_ret (pv 2)))))
    pss_nil)
  (pss_cons (ps_asg (pe_op op_add (pe_ix (ix_listK (K := K) rfl) (pv 0) pe_int (fun _ _ => rfl)) pe_int) (pg_sub (pv 0) pe_int set_list))
  (pss_cons (ps_asg (pe_op op_modN (pe_callTy c_int (by rfl) B.b_int (by decide +kernel) (pa_cons (pe_op op_add (pe_op op_add (pe_op op_mul (pe_ix (ix_listK (K := K) rfl) (pv 0) pe_int (fun _ _ => rfl)) pe_int) (pe_op op_mul (pe_op op_mul (pe_ix (ix_listK (K := K) rfl) (pv 0) pe_int (fun _ _ => rfl)) (pe_ix (ix_listK (K := K) rfl) (pv 0) pe_int (fun _ _ => rfl))) pe_int)) pe_int) pa_nil)) pe_int) (pg_sub (pv 0) pe_int set_list))
  (pss_one (ps_ret (pe_op op_modN (pe_callTy c_int (by rfl) B.b_int (by decide +kernel) (pa_cons (pe_op op_fdivN (pe_ix (ix_listK (K := K) rfl) (pv 0) pe_int (fun _ _ => rfl)) pe_int) pa_nil)) (pv 1))))))), ?_⟩
    walk_at "all"
    · have e1 := Int.fmod_eq_emod_of_nonneg x (show (0 : Int) ≤ n by omega)
      have e2 := Int.fdiv_eq_ediv_of_nonneg x (show (0 : Int) ≤ n by omega)
      refine q _ _ (by rw [e1]; exact Int.emod_nonneg _ (by omega)) (by rw [e1]; exact Int.emod_lt_of_pos _ hn) ⟨x.fdiv n, y, z, upd_same, by rw [e2]; exact Int.ediv_nonneg h2 (by omega), h3, h4, h5, by omega⟩ (.put (by simp) h1 trivial)
    · generalize hb : (y * 52501 + (z + 1) * (z + 1) * 1009 + 77).fmod 2147480009 = y2
      have e0 := Int.fmod_eq_emod_of_nonneg (y * 52501 + (z + 1) * (z + 1) * 1009 + 77) (show (0 : Int) ≤ 2147480009 by omega)
      rw [hb] at e0
      have y0 : 0 ≤ y2 := by rw [e0]; exact Int.emod_nonneg _ (by omega)
      have y1 : y2 < 2147480009 := by rw [e0]; exact Int.emod_lt_of_pos _ (by omega)
      have e1 := Int.fmod_eq_emod_of_nonneg (y2.fdiv 211) (show (0 : Int) ≤ n by omega)
      refine q _ _ (by rw [e1]; exact Int.emod_nonneg _ (by omega)) (by rw [e1]; exact Int.emod_lt_of_pos _ hn) ⟨x, y2, z + 1, upd_same, h2, y0, y1, by omega, by omega⟩ ?_
      exact (Off.put (by simp) h1 trivial).trans (.put (by simp) upd_same trivial)
theorem ok_law_pick (T : Txt P w K mg) : DefOk P w K mg base "_law_pick" 2 ["dice", "things"] (spPick K) := by
  refine T.d_law_pick.ok sc_law_pick (fun _ _ _ _ _ _ us hl => match us, hl with | [_, _], _ => rfl) (fun vs H Q E h => ?_) (fun f cdv A outer s H vs Q E hr h => ?_)
  · obtain ⟨a, l, c, xs, rfl, _⟩ := h
    rfl
  · obtain ⟨a, l, c, xs, rfl, hd, hc, hl, h1, h2, hne, q⟩ := h
    have B := T.blt
    have hu := hu_of hr
    have G_law_roll := ok_law_roll (base := base) T
    refine ⟨_, (pss_one (ps_ret (pe_ix (ix_listK (K := K) rfl) (pv 1) (pe_df G_law_roll (hr.mono (by decide)) (L2N.passes_call (L2N.takes_of rfl rfl rfl rfl) fun _ _ _ _ z => z) (pa_cons (pv 0) (pa_cons (pe_callB (c_lenK (K := K) rfl) (by rfl) B.b_len PySem.boot_len (pa_cons (pv 1) pa_nil)) pa_nil))) (fun _ _ => rfl)))), ?_⟩
    walk_at "go"
    refine ⟨a, (xs.length : Int), c, rfl, hd, hc, by omega, by omega, fun r H1 r0 r1 d1 o1 => ?_⟩
    obtain ⟨v, hv⟩ : ∃ v, atI xs r = some v := by
      unfold atI ixN
      rw [if_pos r0, if_pos r1]
      exact ⟨xs[r.toNat]'(by omega), by simp⟩
    refine g_ixL (o1.seqL (by simpa using hne.symm) hl) hv (q v H1 ?_ d1 o1)
    unfold atI at hv
    obtain ⟨j, _, hj⟩ := Option.bind_eq_some_iff.mp hv
    exact List.mem_of_getElem? hj
theorem ok_law_dice (T : Txt P w K mg) : DefOk P w K mg base "_law_dice" 1 ["script", "spot"] (spDice K) := by
  refine T.d_law_dice.ok sc_law_dice (fun _ _ _ _ _ _ us hl => match us, hl with | [_, _], _ => rfl) (fun vs H Q E h => ?_) (fun f cdv A outer s H vs Q E hr h => ?_)
  · obtain ⟨a, spot, ns, rfl, _⟩ := h
    rfl
  · obtain ⟨a, spot, ns, rfl, hS, hlen, h0, h1, q⟩ := h
    have B := T.blt
    have hu := hu_of hr
    refine ⟨_, (pss_cut (ps_set (i := 2) sc_law_dice.nd rfl (by first | exact Or.inl rfl | exact Or.inr rfl) (pe_ifExp (pt_cmpR op_lt (pv 1) (pe_callB (c_lenK (K := K) rfl) (by rfl) B.b_len PySem.boot_len (pa_cons (pv 0) pa_nil)) (nomark _)) (pe_ix (ix_listK (K := K) rfl) (pv 0) (pv 1) (fun _ _ => rfl)) (pe_op op_add (pe_op op_mul pe_int (pv 1)) pe_int)))
  (pss_cons (ps_set (i := 3) sc_law_dice.nd rfl (by first | exact Or.inl rfl | exact Or.inr rfl) (pe_op op_add pe_int (pe_op op_mul pe_int (pv 1))))
  (pss_cons (ps_for (passes_of rfl) rfl (pi_listK (K := K) rfl (pe_op op_cat (pe_slice (sl_listK (K := K) rfl) (pv 0) po_none (po_some pe_int)) (pe_lst (pa_cons (pv 2) pa_nil)))) (pg_name (i := 4) sc_law_dice.nd rfl (by first | exact Or.inl rfl | exact Or.inr rfl))
    (pss_one (ps_set (i := 3) sc_law_dice.nd rfl (by first | exact Or.inl rfl | exact Or.inr rfl) (pe_op op_modN (pe_callTy c_int (by rfl) B.b_int (by decide +kernel) (pa_cons (pe_op op_add (pe_op op_mul (pv 3) pe_int) (pe_op op_modN (pe_callTy c_int (by rfl) B.b_int (by decide +kernel) (pa_cons (pv 4) pa_nil)) pe_int)) pa_nil)) pe_int))))
  (pss_one (ps_ret (pe_lst (pa_cons (pe_ifExp (PW.pt (pw_or (pt_cmpR op_lt (pv 2) pe_int (nomark _)) (pw_or1 (pt_cmpR op_ge (pv 2) (pe_op op_pow pe_int pe_int) (nomark _))))) (pe_callB c_abs (by rfl) B.b_abs (by decide +kernel) (pa_cons (pv 2) pa_nil)) pe_int) (pa_cons (pv 3) (pa_cons pe_int pa_nil))))))))), ?_⟩
    refine SH.g_cut (fun σ' H' => ∃ own : Int, σ' = [some (.ref a), some (.int spot), some (.int own), none, none] ∧ H' = H) ?_ ?_
    · walk_at "all"
      · rename_i hlt
        obtain ⟨v, hv, hm, _⟩ := atI_nat' (xs := ns.map V.int) h0 hlt
        obtain ⟨k, _, rfl⟩ := List.mem_map.mp hm
        refine g_ixL hS hv ?_
        walk_at "go"
        exact ⟨k, rfl, rfl⟩
      · exact ⟨733 * spot + 29, rfl, rfl⟩
    · rintro σ' H' ⟨own, rfl, rfl⟩
      walk_at "go"
      rename_i p hp p2 hp2
      have hl1 := cutV_len (ns.map V.int) none (some 6)
      rw [List.length_map] at hl1
      refine g_cat (by walk_at "hp") (by walk_at "hp") (Nat.le_trans (show _ ≤ 1000 by simp; omega) (by decide)) fun p3 hp3 => ?_
      have o3 : Off [] H' (upd (upd (upd H' p (HO.lst (cutV (List.map V.int ns) none (some 6)))) p2 (HO.lst [V.int own])) p3 (HO.lst (cutV (ns.map V.int) none (some 6) ++ [V.int own]))) := ((Off.new hp).new2 hp2).new2 hp3
      refine forL_mk (fun i σ H1 => ∃ m : Int, ∃ c : Option V, σ = [some (.ref a), some (.int spot), some (.int own), some (.int m), c] ∧ 0 ≤ m ∧ (i = 0 ∨ m < 2147480009) ∧ m < 1000000000000 ∧ Off [] H' H1 ∧ H1 p3 = some (.lst (cutV (ns.map V.int) none (some 6) ++ [V.int own])))
        (SqL.of upd_same) ⟨910003 + 7907 * spot, none, rfl, by omega, .inl rfl, by omega, o3, upd_same⟩ (fun i σ H1 _ hp => ?_) (fun i x σ H1 hi hp => ?_) (fun σ H1 hp => ?_)
      · obtain ⟨m, c, _, _, _, _, _, h⟩ := hp
        exact SqL.of h
      · obtain ⟨m, c, rfl, m0, _, m1, o, h⟩ := hp
        obtain ⟨k, rfl⟩ : ∃ k, x = V.int k := by
          rcases List.mem_append.mp (List.mem_of_getElem? hi) with hm | hm
          · obtain ⟨k, _, rfl⟩ := List.mem_map.mp (mem_cutV hm)
            exact ⟨k, rfl⟩
          · exact ⟨own, List.mem_singleton.mp hm⟩
        walk_at "go"
        generalize hb : (m * 48271 + k.fmod 2147480009).fmod 2147480009 = y2
        have e0 := Int.fmod_eq_emod_of_nonneg (m * 48271 + k.fmod 2147480009) (show (0 : Int) ≤ 2147480009 by omega)
        rw [hb] at e0
        have y0 : 0 ≤ y2 := by rw [e0]; exact Int.emod_nonneg _ (by omega)
        have y1 : y2 < 2147480009 := by rw [e0]; exact Int.emod_lt_of_pos _ (by omega)
        exact ⟨y2, _, rfl, y0, .inr y1, by omega, o, h⟩
      · obtain ⟨m, c, rfl, m0, ml, m1, o, h⟩ := hp
        have hm : m < 2147480009 := by
          rcases ml with h | h
          · simp at h
          · exact h
        walk_at "all"
        all_goals (rename_i pz hz; refine q pz _ (o.back hz) ⟨_, m, 0, upd_same, ?_, m0, hm, by omega, by omega⟩ (o.new2 hz))
        all_goals (first | (split <;> omega) | omega)
end
end SH
end

section
/-! #### the walk's words -/
local macro_rules | `(tactic| walk_at "ne0") => `(tactic| first
  | assumption
  | (refine Ne.symm ?_; assumption))
local macro_rules | `(tactic| walk_at "ne") => `(tactic| first
  | assumption
  | (refine Ne.symm ?_; assumption)
  | (refine' L2.ne_of_none ?gx (by assumption); (case gx => walk_at "hp"))
  | (refine' Ne.symm (L2.ne_of_none ?gx (by assumption)); (case gx => walk_at "hp")))
local macro_rules | `(tactic| walk_at "hp") => `(tactic| first
  | assumption
  | exact L2.upd_same
  | (refine' SH.upd_new ?gh (by assumption); (case gh => walk_at "hp"))
  | (refine' (L2.upd_ne ?gn).trans ?gh; (case gn => walk_at "ne0"); (case gh => walk_at "hp"))
  | (refine' SH.Off.at (by assumption) ?gn ?gh; (case gn => walk_at "nin"); (case gh => walk_at "hp")))
local macro_rules | `(tactic| walk_at "nin") => `(tactic| first
  | exact SH.nin_nil
  | (refine SH.nin_cons ?_ ?_; (· walk_at "ne0"); (· walk_at "nin")))
local macro_rules | `(tactic| walk_at "sq") => `(tactic| first
  | assumption
  | (apply L2.SqL.of; (· walk_at "hp"))
  | (apply L2.SqT.of; (· walk_at "hp"))
  | (refine' SH.seqT_new ?gx (by assumption); (case gx => walk_at "sq"))
  | (refine' SH.seqL_new ?gx (by assumption); (case gx => walk_at "sq"))
  | (refine' SH.Off.seqT (by assumption) ?gx; (case gx => walk_at "sq"))
  | (refine' SH.Off.seqL (by assumption) ?gy ?gx; (case gx => walk_at "sq"); (case gy => walk_at "nin")))
local macro_rules | `(tactic| walk_at "kd") => `(tactic| first
  | assumption | exact SH.KdV.int _ | exact SH.KdV.bl _ | exact SH.KdV.str _ | exact SH.KdV.non
  | (apply SH.KdV.tup; (· walk_at "sq")) | (apply SH.KdV.lst; (· walk_at "sq")))
/-- a way that cannot be -/
local macro_rules | `(tactic| walk_at "no") => `(tactic| (exfalso; first | assumption | omega | contradiction | (simp_all; done)))
/-- one step -/
local macro_rules | `(tactic| walk_at "g1") => `(tactic| with_reducible first
  | refine SH.g_var (by with_unfolding_all rfl) ?_ | refine SH.g_c ?_ | refine SH.g_op ?_ | refine SH.g_un ?_ | refine SH.g_I0 ?_ | refine SH.g_U ?_
  | refine SH.g_eqI ?_ | refine SH.g_neI ?_ | refine SH.g_eqS ?_ | refine SH.g_neS ?_
  | refine SH.g_test ?_ | refine SH.g_B ?_ | refine SH.g_isB ?_ | refine SH.g_and ?_ | refine SH.g_or ?_ | refine SH.g_not ?_ | refine SH.g_andV ?_ | refine SH.g_orV ?_ | refine SH.g_notV ?_ | refine SH.g_ifE ?_ | refine SH.g_chain ?_
  | refine SH.g_nil ?_ | refine SH.g_cons ?_ | refine SH.g_tup ?_ | refine SH.g_lst ?_ | refine SH.g_call ?_ | refine SH.g_fld ?_ | refine SH.g_meth ?_ | refine SH.g_make ?_ | refine SH.g_cb ?_ | refine SH.g_bm ?_
  | refine SH.g_seq ?_ | refine SH.g_asg ?_ | refine SH.g_name ?_ | refine SH.g_drop ?_ | refine SH.g_ret ?_ | refine SH.g_retN ?_ | refine SH.g_next ?_ | refine SH.g_brk ?_ | refine SH.g_cnt ?_ | refine SH.g_ifs ?_ | refine SH.g_par ?_ | refine SH.g_par2 ?_ | refine SH.g_fldS ?_ | refine SH.g_raise ?_ | refine SH.g_rs ?_
  | refine SH.g_sub ?_ | refine SH.g_yes ?_ | refine SH.g_sl ?_ | refine SH.g_noPart ?_ | refine SH.g_part ?_ | refine SH.g_intO ?_ | refine SH.g_dget ?_ | refine SH.g_dput ?_ | refine SH.g_forR ?_ | refine SH.g_forL ?_ | refine SH.g_forT ?_ | refine SH.g_lcR ?_ | refine SH.g_lcL ?_ | refine SH.g_lcT ?_ | refine SH.g_gcons ?_ | refine SH.g_gnil ?_
  | refine SH.br_t ?_ | refine SH.br_f ?_
  | refine SH.g_int ?_ | refine SH.g_abs ?_ | refine SH.g_max2 ?_ | refine SH.g_min2 ?_)
local macro_rules | `(tactic| walk_at "g2") => `(tactic| first
  | walk_at "g1"
  | ((with_reducible refine' SH.g_isiInt ?ga ?gz); (case ga => walk_at "kd"))
  | ((with_reducible refine' SH.g_isiBool ?ga ?gz); (case ga => walk_at "kd"))
  | ((with_reducible refine' SH.g_isiStr ?ga ?gz); (case ga => walk_at "kd"))
  | ((with_reducible refine' SH.g_isiTup ?ga ?gz); (case ga => walk_at "kd"))
  | ((with_reducible refine' SH.g_ixT ?ga ?gb ?gz); (case ga => walk_at "sq"); (case gb => rfl))
  | ((with_reducible refine' SH.g_ixL ?ga ?gb ?gz); (case ga => walk_at "sq"); (case gb => first | rfl | (apply SH.atI_refs; assumption)))
  | ((with_reducible refine SH.br_F ?_ ?_); (· decide +kernel)) | ((with_reducible refine SH.br_T ?_ ?_); (· decide +kernel)) | ((with_reducible refine SH.br_NF ?_ ?_); (· decide +kernel)) | ((with_reducible refine SH.br_NT ?_ ?_); (· decide +kernel))
  | ((with_reducible refine' SH.g_gtup ?ga ?gb ?gz); (case ga => walk_at "sq"); (case gb => rfl))
  | ((with_reducible refine' SH.g_lenT ?ga ?gz); (case ga => walk_at "sq"))
  | ((with_reducible refine' SH.g_lenL ?ga ?gz); (case ga => walk_at "sq"))
  | ((with_reducible refine SH.g_mkT (SH.sz rfl) ?_); intro _ _)
  | ((with_reducible refine SH.g_mkL (SH.sz rfl) ?_); intro _ _)
  | ((with_reducible refine SH.g_dnew ?_); intro _ _)
  | ((with_reducible refine' SH.g_tupL ?ga ?gz); (case ga => walk_at "sq"); intro _ _)
  | ((with_reducible refine' SH.g_lstL ?ga ?gz); (case ga => walk_at "sq"); intro _ _)
  | ((with_reducible refine' SH.g_lstT ?ga ?gz); (case ga => walk_at "sq"); intro _ _)
  | ((with_reducible refine' SH.g_dgR ?ga ?gb ?gz); (case ga => walk_at "hp"); (case gb => walk_at "dv"))
  | ((with_reducible refine' SH.g_fldR ?ga ?gb ?gc ?gd ?gz); (case ga => walk_at "hp"); (case gb => walk_at "cl"); (case gc => walk_at "na"); (case gd => walk_at "fv"))
  | ((with_reducible refine' SH.g_insR ?ga ?gb ?gz); (case ga => walk_at "hp"); (case gb => walk_at "fn"))
  | ((with_reducible refine' SH.g_setL ?ga ?gb ?gz); (case ga => walk_at "hp"); (case gb => rfl))
  | ((with_reducible refine SH.g_I ?_ ?_); (· walk_at "ci"))
  | ((with_reducible refine' SH.g_slL ?ga ?gz); (case ga => walk_at "sq"); intro _ _)
  | ((with_reducible refine' SH.g_cat ?ga ?gb ?gc ?gz); (case ga => walk_at "hp"); (case gb => walk_at "hp"); (case gc => walk_at "ls"); intro _ _))
/-- the side conditions of numbers: a divisor, a factor -/
local macro_rules | `(tactic| walk_at "ci") => `(tactic| first
  | (show _ ≠ _; omega) | (show _ < _; omega) | (constructor <;> omega) | (refine Or.inr ⟨?_, ?_⟩ <;> (show _ < _; omega)) | (refine Or.inl ⟨?_, ?_⟩ <;> (show _ < _; omega)) | (refine ⟨?_, ?_, ?_⟩ <;> decide))
local macro_rules | `(tactic| walk_at "ls") => `(tactic| first | (show _ ≤ _; exact Nat.le_trans (by assumption) (by decide)) | (show _ ≤ _; exact Nat.le_trans (by simp; omega) (by decide : 1000 ≤ sizeLine)))
local macro_rules | `(tactic| walk_at "dv") => `(tactic| rfl)
local macro_rules | `(tactic| walk_at "fv") => `(tactic| rfl)
local macro_rules | `(tactic| walk_at "fn") => `(tactic| rfl)
local macro_rules | `(tactic| walk_at "cl") => `(tactic| assumption)
local macro_rules | `(tactic| walk_at "na") => `(tactic| assumption)
local macro_rules | `(tactic| walk_at "go") => `(tactic| repeat walk_at "g2")
/-- a way is split -/
local macro_rules | `(tactic| walk_at "br") => `(tactic| with_reducible first
  | refine SH.br_d (fun _ => ?_) (fun _ => ?_) | refine SH.br_nd (fun _ => ?_) (fun _ => ?_) | refine SH.br_b (fun _ => ?_) (fun _ => ?_))
/-- all ways -/
local macro_rules | `(tactic| walk_at "all") => `(tactic| repeat' first | walk_at "g2" | (walk_at "br" <;> try (walk_at "no")))
/-- a truth value is the other -/
local macro_rules | `(tactic| walk_at "bq") => `(tactic| first | rfl | (simp_all; done) | (simp_all; omega) | (simp only [decide_eq_true_eq, decide_eq_false_iff_not, Bool.and_eq_true, Bool.or_eq_true] at *; omega))
/-- what was tracked is as it was -/
local macro_rules | `(tactic| walk_at "of") => `(tactic| first
  | assumption
  | exact SH.Off.refl _ _
  | (refine' SH.Off.new2 ?gx (by assumption); (case gx => walk_at "of"))
  | (refine' SH.Off.mut ?gx (by assumption); (case gx => walk_at "of"))
  | (refine' SH.Off.trans' ?gx (by assumption) ?gy; (case gy => (intro _ h; (first | exact h | (simp at h; done) | (simp at h ⊢; simp [h]; done)))); (case gx => walk_at "of")))
namespace SH
open PySem PySem.Spec PyProof.Rows L2
theorem DiceAt.new {H : Hp} {a p : Addr} {c : Int} {o : HO} (h : DiceAt H a c) (hp : H p = none) : DiceAt (upd H p o) a c := by
  obtain ⟨x, y, z, h1, r⟩ := h
  exact ⟨x, y, z, by rw [upd_ne (ne_of_none h1 hp)]; exact h1, r⟩
theorem DiceAt.put {H : Hp} {a p : Addr} {c : Int} {o : HO} (h : DiceAt H a c) (hp : a ≠ p) : DiceAt (upd H p o) a c := by
  obtain ⟨x, y, z, h1, r⟩ := h
  exact ⟨x, y, z, by rw [upd_ne hp]; exact h1, r⟩
theorem DiceAt.ne {H : Hp} {a p : Addr} {c : Int} (h : DiceAt H a c) (hp : H p = none) : a ≠ p := by
  obtain ⟨x, y, z, h1, r⟩ := h
  exact ne_of_none h1 hp
theorem g_roll {H : Hp} {Q : VK} {E : XK} {a : Addr} {n c : Int} (h : DiceAt H a c) (hc : c ≤ 1000000000) (h0 : 0 < n) (h1 : n < 1073741824) (q : ∀ r H', 0 ≤ r → r < n → DiceAt H' a (c + 1) → Off [a] H H' → Q (.int r) H') : spRoll [.ref a, .int n] H Q E := ⟨a, n, c, rfl, h, hc, h0, h1, q⟩
/-- a pick of a list of ints that was just laid -/
theorem g_pick {K : PySem.W.Frag} {H : Hp} {Q : VK} {E : XK} {a l : Addr} {c : Int} {ns : List Int} (lo hi : Int) (hl : H l = none) (h : DiceAt H a c) (hc : c ≤ 1000000000) (e : ∀ k ∈ ns, lo ≤ k ∧ k ≤ hi) (h0 : 0 < ns.length) (h1 : ns.length < 1000)
    (q : ∀ k H', k ∈ ns → lo ≤ k → k ≤ hi → DiceAt H' a (c + 1) → Off [a] (upd H l (.lst (ns.map V.int))) H' → Q (.int k) H') : spPick K [.ref a, .ref l] (upd H l (.lst (ns.map V.int))) Q E :=
  ⟨a, l, c, ns.map V.int, rfl, h.new hl, hc, SqL.of upd_same, by simpa using h0, by simpa using h1, h.ne hl, fun v H' hv d o => by
    obtain ⟨k, hk, rfl⟩ := List.mem_map.mp hv
    exact q k H' hk (e k hk).1 (e k hk).2 d o⟩
end SH
end

section
/-! #### the walk's words -/
local macro_rules | `(tactic| walk_at "ne0") => `(tactic| first
  | assumption
  | (refine Ne.symm ?_; assumption))
local macro_rules | `(tactic| walk_at "ne") => `(tactic| first
  | assumption
  | (refine Ne.symm ?_; assumption)
  | (refine' L2.ne_of_none ?gx (by assumption); (case gx => walk_at "hp"))
  | (refine' Ne.symm (L2.ne_of_none ?gx (by assumption)); (case gx => walk_at "hp")))
local macro_rules | `(tactic| walk_at "hp") => `(tactic| first
  | assumption
  | exact L2.upd_same
  | (refine' SH.upd_new ?gh (by assumption); (case gh => walk_at "hp"))
  | (refine' (L2.upd_ne ?gn).trans ?gh; (case gn => walk_at "ne0"); (case gh => walk_at "hp"))
  | (refine' SH.Off.at (by assumption) ?gn ?gh; (case gn => walk_at "nin"); (case gh => walk_at "hp")))
local macro_rules | `(tactic| walk_at "nin") => `(tactic| first
  | exact SH.nin_nil
  | (refine SH.nin_cons ?_ ?_; (· walk_at "ne0"); (· walk_at "nin")))
local macro_rules | `(tactic| walk_at "sq") => `(tactic| first
  | assumption
  | (apply L2.SqL.of; (· walk_at "hp"))
  | (apply L2.SqT.of; (· walk_at "hp"))
  | (refine' SH.seqT_new ?gx (by assumption); (case gx => walk_at "sq"))
  | (refine' SH.seqL_new ?gx (by assumption); (case gx => walk_at "sq"))
  | (refine' SH.Off.seqT (by assumption) ?gx; (case gx => walk_at "sq"))
  | (refine' SH.Off.seqL (by assumption) ?gy ?gx; (case gx => walk_at "sq"); (case gy => walk_at "nin")))
local macro_rules | `(tactic| walk_at "kd") => `(tactic| first
  | assumption | exact SH.KdV.int _ | exact SH.KdV.bl _ | exact SH.KdV.str _ | exact SH.KdV.non
  | (apply SH.KdV.tup; (· walk_at "sq")) | (apply SH.KdV.lst; (· walk_at "sq")))
/-- a way that cannot be -/
local macro_rules | `(tactic| walk_at "no") => `(tactic| (exfalso; first | assumption | omega | contradiction | (simp_all; done)))
/-- one step -/
local macro_rules | `(tactic| walk_at "g1") => `(tactic| with_reducible first
  | refine SH.g_var (by with_unfolding_all rfl) ?_ | refine SH.g_c ?_ | refine SH.g_op ?_ | refine SH.g_un ?_ | refine SH.g_I0 ?_ | refine SH.g_U ?_
  | refine SH.g_eqI ?_ | refine SH.g_neI ?_ | refine SH.g_eqS ?_ | refine SH.g_neS ?_
  | refine SH.g_test ?_ | refine SH.g_B ?_ | refine SH.g_isB ?_ | refine SH.g_and ?_ | refine SH.g_or ?_ | refine SH.g_not ?_ | refine SH.g_andV ?_ | refine SH.g_orV ?_ | refine SH.g_notV ?_ | refine SH.g_ifE ?_ | refine SH.g_chain ?_
  | refine SH.g_nil ?_ | refine SH.g_cons ?_ | refine SH.g_tup ?_ | refine SH.g_lst ?_ | refine SH.g_call ?_ | refine SH.g_fld ?_ | refine SH.g_meth ?_ | refine SH.g_make ?_ | refine SH.g_cb ?_ | refine SH.g_bm ?_
  | refine SH.g_seq ?_ | refine SH.g_asg ?_ | refine SH.g_name ?_ | refine SH.g_drop ?_ | refine SH.g_ret ?_ | refine SH.g_retN ?_ | refine SH.g_next ?_ | refine SH.g_brk ?_ | refine SH.g_cnt ?_ | refine SH.g_ifs ?_ | refine SH.g_par ?_ | refine SH.g_par2 ?_ | refine SH.g_fldS ?_ | refine SH.g_raise ?_ | refine SH.g_rs ?_
  | refine SH.g_sub ?_ | refine SH.g_yes ?_ | refine SH.g_sl ?_ | refine SH.g_noPart ?_ | refine SH.g_part ?_ | refine SH.g_intO ?_ | refine SH.g_dget ?_ | refine SH.g_dput ?_ | refine SH.g_forR ?_ | refine SH.g_forL ?_ | refine SH.g_forT ?_ | refine SH.g_lcR ?_ | refine SH.g_lcL ?_ | refine SH.g_lcT ?_ | refine SH.g_gcons ?_ | refine SH.g_gnil ?_
  | refine SH.br_t ?_ | refine SH.br_f ?_
  | refine SH.g_int ?_ | refine SH.g_abs ?_ | refine SH.g_max2 ?_ | refine SH.g_min2 ?_)
local macro_rules | `(tactic| walk_at "g2") => `(tactic| first
  | walk_at "g1"
  | ((with_reducible refine' SH.g_isiInt ?ga ?gz); (case ga => walk_at "kd"))
  | ((with_reducible refine' SH.g_isiBool ?ga ?gz); (case ga => walk_at "kd"))
  | ((with_reducible refine' SH.g_isiStr ?ga ?gz); (case ga => walk_at "kd"))
  | ((with_reducible refine' SH.g_isiTup ?ga ?gz); (case ga => walk_at "kd"))
  | ((with_reducible refine' SH.g_ixT ?ga ?gb ?gz); (case ga => walk_at "sq"); (case gb => rfl))
  | ((with_reducible refine' SH.g_ixL ?ga ?gb ?gz); (case ga => walk_at "sq"); (case gb => first | rfl | (apply SH.atI_refs; assumption)))
  | ((with_reducible refine SH.br_F ?_ ?_); (· decide +kernel)) | ((with_reducible refine SH.br_T ?_ ?_); (· decide +kernel)) | ((with_reducible refine SH.br_NF ?_ ?_); (· decide +kernel)) | ((with_reducible refine SH.br_NT ?_ ?_); (· decide +kernel))
  | ((with_reducible refine' SH.g_gtup ?ga ?gb ?gz); (case ga => walk_at "sq"); (case gb => rfl))
  | ((with_reducible refine' SH.g_lenT ?ga ?gz); (case ga => walk_at "sq"))
  | ((with_reducible refine' SH.g_lenL ?ga ?gz); (case ga => walk_at "sq"))
  | ((with_reducible refine SH.g_mkT (SH.sz rfl) ?_); intro _ _)
  | ((with_reducible refine SH.g_mkL (SH.sz rfl) ?_); intro _ _)
  | ((with_reducible refine SH.g_dnew ?_); intro _ _)
  | ((with_reducible refine' SH.g_tupL ?ga ?gz); (case ga => walk_at "sq"); intro _ _)
  | ((with_reducible refine' SH.g_lstL ?ga ?gz); (case ga => walk_at "sq"); intro _ _)
  | ((with_reducible refine' SH.g_lstT ?ga ?gz); (case ga => walk_at "sq"); intro _ _)
  | ((with_reducible refine' SH.g_dgR ?ga ?gb ?gz); (case ga => walk_at "hp"); (case gb => walk_at "dv"))
  | ((with_reducible refine' SH.g_fldR ?ga ?gb ?gc ?gd ?gz); (case ga => walk_at "hp"); (case gb => walk_at "cl"); (case gc => walk_at "na"); (case gd => walk_at "fv"))
  | ((with_reducible refine' SH.g_insR ?ga ?gb ?gz); (case ga => walk_at "hp"); (case gb => walk_at "fn"))
  | ((with_reducible refine' SH.g_setL ?ga ?gb ?gz); (case ga => walk_at "hp"); (case gb => rfl))
  | ((with_reducible refine SH.g_I ?_ ?_); (· walk_at "ci"))
  | ((with_reducible refine' SH.g_slL ?ga ?gz); (case ga => walk_at "sq"); intro _ _)
  | ((with_reducible refine' SH.g_cat ?ga ?gb ?gc ?gz); (case ga => walk_at "hp"); (case gb => walk_at "hp"); (case gc => walk_at "ls"); intro _ _))
/-- the side conditions of numbers: a divisor, a factor -/
local macro_rules | `(tactic| walk_at "ci") => `(tactic| first
  | (show _ ≠ _; omega) | (show _ < _; omega) | (constructor <;> omega) | (refine Or.inr ⟨?_, ?_⟩ <;> (show _ < _; omega)) | (refine Or.inl ⟨?_, ?_⟩ <;> (show _ < _; omega)) | (refine ⟨?_, ?_, ?_⟩ <;> decide))
local macro_rules | `(tactic| walk_at "ls") => `(tactic| first | (show _ ≤ _; exact Nat.le_trans (by assumption) (by decide)) | (show _ ≤ _; exact Nat.le_trans (by simp; omega) (by decide : 1000 ≤ sizeLine)))
local macro_rules | `(tactic| walk_at "dv") => `(tactic| rfl)
local macro_rules | `(tactic| walk_at "fv") => `(tactic| rfl)
local macro_rules | `(tactic| walk_at "fn") => `(tactic| rfl)
local macro_rules | `(tactic| walk_at "cl") => `(tactic| assumption)
local macro_rules | `(tactic| walk_at "na") => `(tactic| assumption)
local macro_rules | `(tactic| walk_at "go") => `(tactic| repeat walk_at "g2")
/-- a way is split -/
local macro_rules | `(tactic| walk_at "br") => `(tactic| with_reducible first
  | refine SH.br_d (fun _ => ?_) (fun _ => ?_) | refine SH.br_nd (fun _ => ?_) (fun _ => ?_) | refine SH.br_b (fun _ => ?_) (fun _ => ?_))
/-- all ways -/
local macro_rules | `(tactic| walk_at "all") => `(tactic| repeat' first | walk_at "g2" | (walk_at "br" <;> try (walk_at "no")))
/-- a truth value is the other -/
local macro_rules | `(tactic| walk_at "bq") => `(tactic| first | rfl | (simp_all; done) | (simp_all; omega) | (simp only [decide_eq_true_eq, decide_eq_false_iff_not, Bool.and_eq_true, Bool.or_eq_true] at *; omega))
/-- what was tracked is as it was -/
local macro_rules | `(tactic| walk_at "of") => `(tactic| first
  | assumption
  | exact SH.Off.refl _ _
  | (refine' SH.Off.new2 ?gx (by assumption); (case gx => walk_at "of"))
  | (refine' SH.Off.mut ?gx (by assumption); (case gx => walk_at "of"))
  | (refine' SH.Off.trans' ?gx (by assumption) ?gy; (case gy => (intro _ h; (first | exact h | (simp at h; done) | (simp at h ⊢; simp [h]; done)))); (case gx => walk_at "of")))
namespace SH
open PySem PySem.Spec PyProof.Rows L2
/-! ### growth, plain -/
def gAt (g : List Nat) (l : Nat) : Nat := g.getD l 0
structure GrOk (g : List Nat) : Prop where
  n0 : 2 ≤ g.length
  n1 : g.length ≤ 31
  lt : ∀ l, l < g.length → gAt g l < g.length
  mono : ∀ i j, i ≤ j → j < g.length → gAt g i ≤ gAt g j
def orb (g : List Nat) (s : Nat) : Nat → Nat
  | 0 => s
  | k + 1 => gAt g (orb g s k)
theorem GrOk.orb_lt {g : List Nat} (G : GrOk g) {s : Nat} (hs : s < g.length) : ∀ k, orb g s k < g.length
  | 0 => hs
  | k + 1 => G.lt _ (G.orb_lt hs k)
structure IsTop (g : List Nat) (s T : Nat) : Prop where
  mem : ∃ k, k ≤ g.length ∧ orb g s k = T
  le : ∀ k, orb g s k ≤ T
  cl : ∀ l, l ≤ T → gAt g l ≤ T
  lt : T < g.length
theorem IsTop.uniq {g : List Nat} {s T T' : Nat} (h : IsTop g s T) (h' : IsTop g s T') : T = T' := by
  obtain ⟨k, _, e⟩ := h.mem
  obtain ⟨k', _, e'⟩ := h'.mem
  have := h.le k'
  have := h'.le k
  omega
theorem IsTop.start {g : List Nat} {s T : Nat} (h : IsTop g s T) : s ≤ T := h.le 0
theorem GrOk.orb_up {g : List Nat} (G : GrOk g) {s : Nat} (hs : s < g.length) (up : s ≤ gAt g s) : ∀ k, orb g s k ≤ orb g s (k + 1)
  | 0 => up
  | k + 1 => G.mono _ _ (G.orb_up hs up k) (G.orb_lt hs (k + 1))
theorem GrOk.orb_down {g : List Nat} (G : GrOk g) {s : Nat} (hs : s < g.length) (dn : gAt g s ≤ s) : ∀ k, orb g s k ≤ s
  | 0 => Nat.le_refl _
  | k + 1 => Nat.le_trans (G.mono _ _ (G.orb_down hs dn k) hs) dn
theorem GrOk.orb_fix {g : List Nat} (G : GrOk g) {s : Nat} (hs : s < g.length) (up : s ≤ gAt g s) : ∃ k, k < g.length ∧ orb g s (k + 1) = orb g s k := by
  have key : ∀ m, (∃ k, k < m ∧ orb g s (k + 1) = orb g s k) ∨ m ≤ orb g s m := fun m => by
    induction m with
    | zero => exact .inr (Nat.zero_le _)
    | succ m ih =>
      rcases ih with ⟨k, hk, e⟩ | h
      · exact .inl ⟨k, by omega, e⟩
      · by_cases c : orb g s (m + 1) = orb g s m
        · exact .inl ⟨m, by omega, c⟩
        · have := G.orb_up hs up m
          exact .inr (by omega)
  rcases key g.length with h | h
  · exact h
  · have := G.orb_lt hs g.length
    omega
theorem orb_stay {g : List Nat} {s k : Nat} (e : orb g s (k + 1) = orb g s k) : ∀ j, orb g s (k + j) = orb g s k
  | 0 => rfl
  | j + 1 => by
    show gAt g (orb g s (k + j)) = _
    rw [orb_stay e j]
    exact e
theorem orb_mono {g : List Nat} {s : Nat} (h : ∀ k, orb g s k ≤ orb g s (k + 1)) : ∀ (j i : Nat), orb g s i ≤ orb g s (i + j)
  | 0, i => Nat.le_refl _
  | j + 1, i => Nat.le_trans (orb_mono h j i) (h _)
theorem GrOk.top_of {g : List Nat} (G : GrOk g) {s T m : Nat} (hs : s < g.length) (hm : g.length ≤ m) (mem : ∃ k, orb g s k = T) (le : ∀ k, k ≤ m → orb g s k ≤ T) : IsTop g s T := by
  obtain ⟨k1, e1⟩ := mem
  by_cases up : s ≤ gAt g s
  · obtain ⟨k, hk, e⟩ := G.orb_fix hs up
    have all : ∀ j, orb g s j ≤ orb g s k := fun j => by
      by_cases c : j ≤ k
      · have := orb_mono (G.orb_up hs up) (k - j) j
        rwa [show j + (k - j) = k by omega] at this
      · have := orb_stay e (j - k)
        rw [show k + (j - k) = j by omega] at this
        omega
    have eT : orb g s k = T := by
      have := le k (by omega)
      have := all k1
      omega
    refine ⟨⟨k, by omega, eT⟩, fun j => eT ▸ all j, fun l hl => ?_, eT ▸ G.orb_lt hs k⟩
    have h1 := G.mono l T hl (eT ▸ G.orb_lt hs k)
    have h2 : gAt g T = T := by rw [← eT]; exact e
    omega
  · have dn := G.orb_down hs (by omega)
    have eT : s = T := by
      have h1 := le 0 (Nat.zero_le _)
      have h2 := dn k1
      have h3 : orb g s 0 = s := rfl
      omega
    subst eT
    refine ⟨⟨0, Nat.zero_le _, rfl⟩, dn, fun l hl => ?_, hs⟩
    have := G.mono l s hl hs
    omega
/-- (greatest so far, stock) -/
def topN (g : List Nat) (s : Nat) : Nat → Nat
  | 0 => s
  | k + 1 => max (topN g s k) (orb g s (k + 1))
theorem topN_le {g : List Nat} {s : Nat} : ∀ {m k : Nat}, k ≤ m → orb g s k ≤ topN g s m
  | 0, k, h => by
    have : k = 0 := by omega
    subst this
    exact Nat.le_refl _
  | m + 1, k, h => by
    show _ ≤ max _ _
    by_cases c : k ≤ m
    · have := topN_le (g := g) (s := s) c
      omega
    · have : k = m + 1 := by omega
      subst this
      omega
theorem topN_mem {g : List Nat} {s : Nat} : ∀ m, ∃ k, orb g s k = topN g s m
  | 0 => ⟨0, rfl⟩
  | m + 1 => by
    obtain ⟨k, e⟩ := topN_mem (g := g) (s := s) m
    by_cases c : topN g s m ≤ orb g s (m + 1)
    · exact ⟨m + 1, by show _ = max _ _; omega⟩
    · exact ⟨k, by show _ = max _ _; omega⟩
def topOf (g : List Nat) (s : Nat) : Nat := topN g s g.length
theorem GrOk.isTop {g : List Nat} (G : GrOk g) {s : Nat} (hs : s < g.length) : IsTop g s (topOf g s) := G.top_of hs (Nat.le_refl _) (topN_mem _) fun _ h => topN_le h
/-! #### ways -/
def run (g : List Nat) : Nat → List Nat → Nat
  | s, [] => s
  | s, c :: cs => run g (gAt g (s - c)) cs
def okR (g : List Nat) : Nat → List Nat → Prop
  | _, [] => True
  | s, c :: cs => c ≤ s ∧ okR g (gAt g (s - c)) cs
def sumN : List Nat → Int
  | [] => 0
  | c :: cs => (c : Int) + sumN cs
theorem sumN_app : ∀ (a b : List Nat), sumN (a ++ b) = sumN a + sumN b
  | [], b => by show sumN b = 0 + sumN b; omega
  | c :: a, b => by
    show (c : Int) + sumN (a ++ b) = (c : Int) + sumN a + sumN b
    rw [sumN_app a b]
    omega
theorem sumN_nn : ∀ a : List Nat, 0 ≤ sumN a
  | [] => Int.le_refl _
  | c :: a => by
    have := sumN_nn a
    show 0 ≤ (c : Int) + sumN a
    omega
theorem run_app {g : List Nat} : ∀ (a : List Nat) {s : Nat} {b : List Nat}, run g s (a ++ b) = run g (run g s a) b
  | [], _, _ => rfl
  | _ :: a, _, _ => run_app a
theorem okR_app {g : List Nat} : ∀ (a : List Nat) {s : Nat} {b : List Nat}, okR g s (a ++ b) ↔ okR g s a ∧ okR g (run g s a) b
  | [], _, _ => ⟨fun h => ⟨trivial, h⟩, fun h => h.2⟩
  | c :: a, s, b => by
    show (c ≤ s ∧ okR g _ (a ++ b)) ↔ (c ≤ s ∧ okR g _ a) ∧ _
    rw [okR_app a]
    exact and_assoc.symm
theorem run_le {g : List Nat} {T : Nat} (cl : ∀ l, l ≤ T → gAt g l ≤ T) : ∀ (cs : List Nat) {s : Nat}, s ≤ T → run g s cs ≤ T
  | [], _, h => h
  | c :: cs, s, h => run_le cl cs (cl _ (by omega))
/-- greatest catches of ways of k seasons -/
structure RowOk (g : List Nat) (T k : Nat) (row : List (Option Int)) : Prop where
  len : row.length = T + 1
  snd : ∀ v x, row[v]? = some (some x) → ∃ u cs, u ≤ T ∧ cs.length = k ∧ okR g u cs ∧ run g u cs = v ∧ sumN cs = x
  cpl : ∀ u cs, u ≤ T → cs.length = k → okR g u cs → ∃ x, row[run g u cs]? = some (some x) ∧ sumN cs ≤ x
/-- what is got and not the mean's -/
def wgt (N D : Int) (cs : List Nat) : Int := sumN cs * D - cs.length * N
theorem wgt_app (N D : Int) (a b : List Nat) : wgt N D (a ++ b) = wgt N D a + wgt N D b := by
  unfold wgt
  rw [sumN_app, List.length_append, Int.add_mul, show ((a.length + b.length : Nat) : Int) = (a.length : Int) + (b.length : Int) by omega, Int.add_mul]
  omega
/-- worths: nothing beats the mean -/
structure Pot (g : List Nat) (T : Nat) (N D : Int) (h : Nat → Int) : Prop where
  nn : ∀ s, s ≤ T → 0 ≤ h s
  le : ∀ s c, s ≤ T → c ≤ s → (c : Int) * D - N + h (gAt g (s - c)) ≤ h s
theorem Pot.way {g : List Nat} {T : Nat} {N D : Int} {h : Nat → Int} (p : Pot g T N D h) (cl : ∀ l, l ≤ T → gAt g l ≤ T) : ∀ (cs : List Nat) {s : Nat}, s ≤ T → okR g s cs → wgt N D cs + h (run g s cs) ≤ h s
  | [], s, _, _ => by
    show 0 * D - ((0 : Nat) : Int) * N + h s ≤ h s
    simp
  | c :: cs, s, hs, ok => by
    have h1 := p.le s c hs ok.1
    have h2 := p.way cl cs (s := gAt g (s - c)) (cl _ (by omega)) ok.2
    have e : wgt N D (c :: cs) = (c : Int) * D - N + wgt N D cs := by
      show ((c : Int) + sumN cs) * D - ((cs.length + 1 : Nat) : Int) * N = _
      unfold wgt
      rw [Int.add_mul, show ((cs.length + 1 : Nat) : Int) = (cs.length : Int) + 1 by omega, Int.add_mul, Int.one_mul]
      omega
    rw [e]
    show _ + h (run g (gAt g (s - c)) cs) ≤ _
    omega
theorem exists_max {n : Nat} (f : Nat → Option Int) (hn : 0 < n) (h0 : ∃ x, f 0 = some x) : ∃ (k : Nat) (x : Int), k < n ∧ f k = some x ∧ ∀ j y, j < n → f j = some y → y ≤ x := by
  induction n with
  | zero => omega
  | succ n ih =>
    by_cases c : n = 0
    · subst c
      obtain ⟨x, e⟩ := h0
      refine ⟨0, x, by omega, e, fun j y hj hy => ?_⟩
      have : j = 0 := by omega
      subst this
      rw [e] at hy
      cases hy
      exact Int.le_refl _
    · obtain ⟨k, x, hk, e, h⟩ := ih (by omega)
      cases hf : f n with
      | none =>
        refine ⟨k, x, by omega, e, fun j y hj hy => ?_⟩
        by_cases d : j < n
        · exact h j y d hy
        · have : j = n := by omega
          subst this
          rw [hf] at hy; cases hy
      | some z =>
        by_cases d : z ≤ x
        · refine ⟨k, x, by omega, e, fun j y hj hy => ?_⟩
          by_cases d2 : j < n
          · exact h j y d2 hy
          · have : j = n := by omega
            subst this
            rw [hf] at hy; cases hy
            exact d
        · refine ⟨n, z, by omega, hf, fun j y hj hy => ?_⟩
          by_cases d2 : j < n
          · have := h j y d2 hy
            omega
          · have : j = n := by omega
            subst this
            rw [hf] at hy; cases hy
            exact Int.le_refl _
/-- no way is worth more than one of fewer than n seasons -/
theorem karp_pot {g : List Nat} {T : Nat} {N D : Int} (row : Nat → List (Option Int)) (hrow : ∀ k, k ≤ T + 1 → RowOk g T k (row k)) (cl : ∀ l, l ≤ T → gAt g l ≤ T) (d0 : 0 < D)
    (hb : ∀ v x, v ≤ T → (row (T + 1))[v]? = some (some x) → ∃ k y, k < T + 1 ∧ (row k)[v]? = some (some y) ∧ (x - y) * D ≤ N * ((T + 1 - k : Nat) : Int)) : ∃ h, Pot g T N D h := by
  have hP : ∀ v, v ≤ T → ∃ (k : Nat) (x : Int), k < T + 1 ∧ (((row k)[v]?).join.map fun x => x * D - (k : Int) * N) = some x ∧ ∀ j y, j < T + 1 → (((row j)[v]?).join.map fun x => x * D - (j : Int) * N) = some y → y ≤ x := fun v hv => by
    refine exists_max (n := T + 1) (fun k => ((row k)[v]?).join.map fun x => x * D - (k : Int) * N) (by omega) ?_
    obtain ⟨x, e, _⟩ := (hrow 0 (by omega)).cpl v [] hv rfl trivial
    have e' : (row 0)[v]? = some (some x) := e
    rw [e']
    exact ⟨_, rfl⟩
  have hP' : ∃ P : Nat → Int, ∀ v, v ≤ T → (∃ u cs, u ≤ T ∧ cs.length < T + 1 ∧ okR g u cs ∧ run g u cs = v ∧ wgt N D cs = P v) ∧ ∀ j y, j < T + 1 → (row j)[v]? = some (some y) → y * D - (j : Int) * N ≤ P v := by
    refine ⟨fun v => if hv : v ≤ T then (hP v hv).choose_spec.choose else 0, fun v hv => ?_⟩
    obtain ⟨hk, e, hm⟩ := (hP v hv).choose_spec.choose_spec
    have eP : (if hv : v ≤ T then (hP v hv).choose_spec.choose else 0) = (hP v hv).choose_spec.choose := dif_pos hv
    show _ ∧ ∀ j y, _ → _ → _ ≤ (if hv : v ≤ T then (hP v hv).choose_spec.choose else 0)
    rw [eP]
    refine ⟨?_, fun j y hj hy => hm j _ hj (by rw [hy]; rfl)⟩
    show ∃ u cs, _ ∧ _ ∧ _ ∧ _ ∧ _ = (if hv : v ≤ T then (hP v hv).choose_spec.choose else 0)
    rw [eP]
    obtain ⟨x, ex, e2⟩ := Option.map_eq_some_iff.mp e
    obtain ⟨o, eo, e3⟩ := Option.join_eq_some_iff.mp ex |> fun h => (⟨_, h, rfl⟩ : ∃ o, (row (hP v hv).choose)[v]? = some (some o) ∧ o = x)
    subst e3
    obtain ⟨u, cs, h1, h2, h3, h4, h5⟩ := (hrow _ (by omega)).snd v _ eo
    refine ⟨u, cs, h1, by omega, h3, h4, ?_⟩
    rw [← e2]
    unfold wgt
    rw [h5, h2]
  obtain ⟨P, hP⟩ := hP'
  have claim : ∀ (m : Nat) (u : Nat) (cs : List Nat), cs.length = m → u ≤ T → okR g u cs → wgt N D cs ≤ P (run g u cs) := fun m => by
    induction m using Nat.strongRecOn with
    | ind m ih =>
      intro u cs hl hu ok
      have hv := run_le cl cs hu
      by_cases c : m < T + 1
      · obtain ⟨x, e, hx⟩ := (hrow m (by omega)).cpl u cs hu hl ok
        have h1 := (hP _ hv).2 m x c e
        have h2 : sumN cs * D ≤ x * D := Int.mul_le_mul_of_nonneg_right hx (by omega)
        unfold wgt
        rw [hl]
        omega
      · have ecs : cs = cs.take (T + 1) ++ cs.drop (T + 1) := (List.take_append_drop _ _).symm
        have l1 : (cs.take (T + 1)).length = T + 1 := by rw [List.length_take]; omega
        have ok' := ok
        rw [ecs] at ok'
        obtain ⟨o1, o2⟩ := (okR_app _).mp ok'
        have hw := run_le cl (cs.take (T + 1)) hu
        obtain ⟨x, e, hx⟩ := (hrow (T + 1) (Nat.le_refl _)).cpl u _ hu l1 o1
        obtain ⟨k, y, hk, ey, hb2⟩ := hb _ x hw e
        obtain ⟨u', ds, h1, h2, h3, h4, h5⟩ := (hrow k (by omega)).snd _ _ ey
        have hlen : (ds ++ cs.drop (T + 1)).length = m - (T + 1 - k) := by
          rw [List.length_append, List.length_drop]
          omega
        have okd : okR g u' (ds ++ cs.drop (T + 1)) := (okR_app _).mpr ⟨h3, by rw [h4]; exact o2⟩
        have h6 := ih (m - (T + 1 - k)) (by omega) u' _ hlen h1 okd
        have er : run g u' (ds ++ cs.drop (T + 1)) = run g u cs := by
          rw [run_app, h4, ← run_app, ← ecs]
        rw [er, wgt_app] at h6
        have h7 : wgt N D cs = wgt N D (cs.take (T + 1)) + wgt N D (cs.drop (T + 1)) := by rw [← wgt_app, ← ecs]
        have h8 : wgt N D (cs.take (T + 1)) ≤ wgt N D ds := by
          unfold wgt
          rw [l1, h2, h5]
          have q1 : sumN (cs.take (T + 1)) * D ≤ x * D := Int.mul_le_mul_of_nonneg_right hx (by omega)
          rw [Int.sub_mul] at hb2
          have q2 : ((T + 1 : Nat) : Int) * N = N * ((T + 1 - k : Nat) : Int) + (k : Int) * N := by
            rw [Int.mul_comm N, ← Int.add_mul]
            congr 1
            omega
          omega
        omega
  have bnd : ∃ C : Int, ∀ s, s ≤ T → P s ≤ C := by
    obtain ⟨k, x, _, _, h⟩ := exists_max (n := T + 1) (fun k => some (P k)) (by omega) ⟨_, rfl⟩
    exact ⟨x, fun s hs => h s (P s) (by omega) rfl⟩
  obtain ⟨C, hC⟩ := bnd
  refine ⟨fun s => C - P s, fun s hs => by have := hC s hs; show 0 ≤ C - P s; omega, fun s c hs hc => ?_⟩
  obtain ⟨⟨u, cs, h1, h2, h3, h4, h5⟩, _⟩ := hP s hs
  have h6 := claim _ u (cs ++ [c]) rfl h1 ((okR_app _).mpr ⟨h3, by rw [h4]; exact ⟨hc, trivial⟩⟩)
  rw [run_app, h4, wgt_app] at h6
  have h7 : run g s [c] = gAt g (s - c) := rfl
  have h8 : wgt N D [c] = (c : Int) * D - N := by
    show ((c : Int) + 0) * D - ((1 : Nat) : Int) * N = _
    simp
  rw [h7, h8] at h6
  show (c : Int) * D - N + (C - P (gAt g (s - c))) ≤ C - P s
  omega
/-! #### a way that comes back -/
theorem pigeon : ∀ (n : Nat) (l : List Nat), (∀ x ∈ l, x < n) → l.Nodup → l.length ≤ n
  | 0, l, h, _ => by
    cases l with
    | nil => exact Nat.le_refl _
    | cons x l => exact absurd (h x List.mem_cons_self) (Nat.not_lt_zero _)
  | n + 1, l, h, nd => by
    have h1 := pigeon n (l.erase n) (fun x hx => by
      have := h x (List.mem_of_mem_erase hx)
      have : x ≠ n := fun e => by
        subst e
        exact (List.Nodup.not_mem_erase nd) hx
      omega) (nd.erase _)
    have := List.length_erase (a := n) (l := l)
    split at this <;> omega
theorem twice {n : Nat} (f : Nat → Nat) (h : ∀ i, i ≤ n → f i < n) : ∃ i j, i < j ∧ j ≤ n ∧ f i = f j := by
  refine Classical.byContradiction fun no => ?_
  have nd : ((List.range (n + 1)).map f).Nodup := by
    rw [List.Nodup, List.pairwise_map]
    refine List.Pairwise.imp_of_mem (R := fun a b => a < b) (fun {a b} ha hb hab e => no ⟨a, b, hab, by have := List.mem_range.mp hb; omega, e⟩) List.pairwise_lt_range
  have := pigeon n _ (fun x hx => by
    obtain ⟨i, hi, rfl⟩ := List.mem_map.mp hx
    exact h i (by have := List.mem_range.mp hi; omega)) nd
  rw [List.length_map, List.length_range] at this
  omega
theorem karp_cycle {g : List Nat} {T : Nat} {N D : Int} (row : Nat → List (Option Int)) (hrow : ∀ k, k ≤ T + 1 → RowOk g T k (row k)) (cl : ∀ l, l ≤ T → gAt g l ≤ T) (d0 : 0 < D) {v : Nat} {d : Int} (hd : (row (T + 1))[v]? = some (some d))
    (hk : ∀ k y, k < T + 1 → (row k)[v]? = some (some y) → N * ((T + 1 - k : Nat) : Int) ≤ (d - y) * D) : ∃ w cs, w ≤ T ∧ cs ≠ [] ∧ okR g w cs ∧ run g w cs = w ∧ 0 ≤ wgt N D cs := by
  obtain ⟨u, cs, h1, h2, h3, h4, h5⟩ := (hrow _ (Nat.le_refl _)).snd v d hd
  obtain ⟨i, j, hij, hj, e⟩ := twice (n := T + 1) (fun i => run g u (cs.take i)) fun i _ => by
    have := run_le cl (cs.take i) h1
    show run g u (cs.take i) < T + 1
    omega
  have e1 : cs = cs.take i ++ ((cs.take j).drop i ++ cs.drop j) := by
    rw [← List.append_assoc]
    have : cs.take i ++ (cs.take j).drop i = cs.take j := by
      have h := List.take_append_drop i (cs.take j)
      rwa [List.take_take, Nat.min_eq_left (by omega)] at h
    rw [this, List.take_append_drop]
  have lm : ((cs.take j).drop i).length = j - i := by rw [List.length_drop, List.length_take]; omega
  have ej : run g u (cs.take j) = run g (run g u (cs.take i)) ((cs.take j).drop i) := by
    rw [← run_app]
    congr 1
    have h := List.take_append_drop i (cs.take j)
    rw [List.take_take, Nat.min_eq_left (by omega)] at h
    exact h.symm
  have ok3 := h3
  rw [e1] at ok3
  obtain ⟨o1, o23⟩ := (okR_app _).mp ok3
  obtain ⟨o2, o3⟩ := (okR_app _).mp o23
  have e' : run g u (cs.take i) = run g u (cs.take j) := e
  refine ⟨run g u (cs.take i), (cs.take j).drop i, run_le cl _ h1, fun z => by rw [z] at lm; simp at lm; omega, o2, by rw [← ej, ← e'], ?_⟩
  have okd : okR g u (cs.take i ++ cs.drop j) := (okR_app _).mpr ⟨o1, by rw [← ej, ← e'] at o3; exact o3⟩
  have erun : run g u (cs.take i ++ cs.drop j) = v := by
    rw [run_app, e', ← run_app, List.take_append_drop, h4]
  have hlen : (cs.take i ++ cs.drop j).length = T + 1 - (j - i) := by
    rw [List.length_append, List.length_take, List.length_drop]
    omega
  obtain ⟨y, ey, hy⟩ := (hrow (T + 1 - (j - i)) (by omega)).cpl u _ h1 hlen okd
  rw [erun] at ey
  have h6 := hk _ y (by omega) ey
  have es : sumN cs = sumN (cs.take i) + (sumN ((cs.take j).drop i) + sumN (cs.drop j)) := by rw [← sumN_app, ← sumN_app, ← e1]
  rw [sumN_app] at hy
  have h7 : (d - y) * D ≤ sumN ((cs.take j).drop i) * D := Int.mul_le_mul_of_nonneg_right (by omega) (by omega)
  have h8 : ((T + 1 - (T + 1 - (j - i)) : Nat) : Int) = ((j - i : Nat) : Int) := by omega
  rw [h8, Int.mul_comm] at h6
  unfold wgt
  rw [lm]
  omega
/-- nothing is caught: a stock that stays -/
theorem rest_cycle {g : List Nat} (G : GrOk g) {T : Nat} (hT : T < g.length) (cl : ∀ l, l ≤ T → gAt g l ≤ T) : ∃ w cs, w ≤ T ∧ cs ≠ [] ∧ okR g w cs ∧ run g w cs = w ∧ 0 ≤ wgt 0 1 cs := by
  have G0 : 0 < g.length := by have := G.n0; omega
  obtain ⟨k, hk, e⟩ := G.orb_fix G0 (Nat.zero_le _)
  have hle : ∀ j, orb g 0 j ≤ T := fun j => by
    induction j with
    | zero => exact Nat.zero_le _
    | succ j ih => exact cl _ ih
  refine ⟨orb g 0 k, [0], hle k, by simp, ⟨Nat.zero_le _, trivial⟩, ?_, by decide⟩
  show gAt g (orb g 0 k - 0) = _
  exact e
/-- ways that come back without a loss lose nothing anywhere -/
theorem Pot.tight {g : List Nat} {T : Nat} {N D : Int} {h : Nat → Int} (p : Pot g T N D h) (cl : ∀ l, l ≤ T → gAt g l ≤ T) : ∀ (cs : List Nat) {s : Nat}, s ≤ T → okR g s cs → h s ≤ wgt N D cs + h (run g s cs) →
    ∀ (a : List Nat) (c : Nat) (b : List Nat), cs = a ++ c :: b → (c : Int) * D + h (gAt g (run g s a - c)) = N + h (run g s a) := fun cs s hs ok hw a c b e => by
  subst e
  obtain ⟨o1, o2⟩ := (okR_app _).mp ok
  have h1 := p.way cl a hs o1
  have hra := run_le cl a hs
  have h2 := p.le (run g s a) c hra o2.1
  have h3 := p.way cl b (s := gAt g (run g s a - c)) (cl _ (by omega)) o2.2
  have e1 : wgt N D (a ++ c :: b) = wgt N D a + ((c : Int) * D - N) + wgt N D b := by
    have : a ++ c :: b = a ++ ([c] ++ b) := rfl
    rw [this, wgt_app, wgt_app]
    have h8 : wgt N D [c] = (c : Int) * D - N := by
      show ((c : Int) + 0) * D - ((1 : Nat) : Int) * N = _
      simp
    omega
  have e2 : run g s (a ++ c :: b) = run g (gAt g (run g s a - c)) b := by rw [run_app]; rfl
  rw [e1, e2] at hw
  omega
/-- no fishing beats the worths, with more growth or not -/
theorem beats {g g' : List Nat} {T : Nat} {N D : Int} {h : Nat → Int} (p : Pot g' T N D h) (cl : ∀ l, l ≤ T → gAt g' l ≤ T) (hg : ∀ l, l ≤ T → gAt g l ≤ gAt g' l) (mono : ∀ i j, i ≤ j → j ≤ T → gAt g' i ≤ gAt g' j) {s : Nat} {cs : List Nat} (hs : s ≤ T) (ok : okR g s cs) (back : s ≤ run g s cs) : wgt N D cs ≤ 0 := by
  have dom : ∀ (cs : List Nat) {s s' : Nat}, s ≤ s' → s' ≤ T → okR g s cs → okR g' s' cs ∧ run g s cs ≤ run g' s' cs := fun cs => by
    induction cs with
    | nil => intro s s' h1 h2 _; exact ⟨trivial, h1⟩
    | cons c cs ih =>
      intro s s' h1 h2 ok
      have h3 : gAt g (s - c) ≤ gAt g' (s' - c) := Nat.le_trans (hg _ (by omega)) (mono _ _ (by omega) (by omega))
      obtain ⟨o1, o2⟩ := ih h3 (cl _ (by omega)) ok.2
      have := ok.1
      exact ⟨⟨by omega, o1⟩, o2⟩
  have rounds : ∀ m : Nat, ∀ s', s ≤ s' → s' ≤ T → (m : Int) * wgt N D cs ≤ h s' := fun m => by
    induction m with
    | zero => intro s' _ h2; have := p.nn s' h2; simp; exact this
    | succ m ih =>
      intro s' h1 h2
      obtain ⟨o1, o2⟩ := dom cs h1 h2 ok
      have h3 := p.way cl cs h2 o1
      have h4 := ih (run g' s' cs) (by omega) (run_le cl cs h2)
      have e : ((m + 1 : Nat) : Int) * wgt N D cs = (m : Int) * wgt N D cs + wgt N D cs := by
        rw [show ((m + 1 : Nat) : Int) = (m : Int) + 1 by omega, Int.add_mul, Int.one_mul]
      omega
  refine Classical.byContradiction fun no => ?_
  have h1 := rounds ((h s).toNat + 1) s (Nat.le_refl _) hs
  have h2 := p.nn s hs
  have h3 : ((h s).toNat + 1 : Nat) ≤ ((h s).toNat + 1 : Nat) * wgt N D cs := by
    have : ((((h s).toNat + 1 : Nat)) : Int) * 1 ≤ (((h s).toNat + 1 : Nat) : Int) * wgt N D cs := Int.mul_le_mul_of_nonneg_left (by omega) (by omega)
    omega
  omega
end SH
end

section
/-! #### the walk's words -/
local macro_rules | `(tactic| walk_at "ne0") => `(tactic| first
  | assumption
  | (refine Ne.symm ?_; assumption))
local macro_rules | `(tactic| walk_at "ne") => `(tactic| first
  | assumption
  | (refine Ne.symm ?_; assumption)
  | (refine' L2.ne_of_none ?gx (by assumption); (case gx => walk_at "hp"))
  | (refine' Ne.symm (L2.ne_of_none ?gx (by assumption)); (case gx => walk_at "hp")))
local macro_rules | `(tactic| walk_at "hp") => `(tactic| first
  | assumption
  | exact L2.upd_same
  | (refine' SH.upd_new ?gh (by assumption); (case gh => walk_at "hp"))
  | (refine' (L2.upd_ne ?gn).trans ?gh; (case gn => walk_at "ne0"); (case gh => walk_at "hp"))
  | (refine' SH.Off.at (by assumption) ?gn ?gh; (case gn => walk_at "nin"); (case gh => walk_at "hp")))
local macro_rules | `(tactic| walk_at "nin") => `(tactic| first
  | exact SH.nin_nil
  | (refine SH.nin_cons ?_ ?_; (· walk_at "ne0"); (· walk_at "nin")))
local macro_rules | `(tactic| walk_at "sq") => `(tactic| first
  | assumption
  | (apply L2.SqL.of; (· walk_at "hp"))
  | (apply L2.SqT.of; (· walk_at "hp"))
  | (refine' SH.seqT_new ?gx (by assumption); (case gx => walk_at "sq"))
  | (refine' SH.seqL_new ?gx (by assumption); (case gx => walk_at "sq"))
  | (refine' SH.Off.seqT (by assumption) ?gx; (case gx => walk_at "sq"))
  | (refine' SH.Off.seqL (by assumption) ?gy ?gx; (case gx => walk_at "sq"); (case gy => walk_at "nin")))
local macro_rules | `(tactic| walk_at "kd") => `(tactic| first
  | assumption | exact SH.KdV.int _ | exact SH.KdV.bl _ | exact SH.KdV.str _ | exact SH.KdV.non
  | (apply SH.KdV.tup; (· walk_at "sq")) | (apply SH.KdV.lst; (· walk_at "sq")))
/-- a way that cannot be -/
local macro_rules | `(tactic| walk_at "no") => `(tactic| (exfalso; first | assumption | omega | contradiction | (simp_all; done)))
/-- one step -/
local macro_rules | `(tactic| walk_at "g1") => `(tactic| with_reducible first
  | refine SH.g_var (by with_unfolding_all rfl) ?_ | refine SH.g_c ?_ | refine SH.g_op ?_ | refine SH.g_un ?_ | refine SH.g_I0 ?_ | refine SH.g_U ?_
  | refine SH.g_eqI ?_ | refine SH.g_neI ?_ | refine SH.g_eqS ?_ | refine SH.g_neS ?_
  | refine SH.g_test ?_ | refine SH.g_B ?_ | refine SH.g_isB ?_ | refine SH.g_and ?_ | refine SH.g_or ?_ | refine SH.g_not ?_ | refine SH.g_andV ?_ | refine SH.g_orV ?_ | refine SH.g_notV ?_ | refine SH.g_ifE ?_ | refine SH.g_chain ?_
  | refine SH.g_nil ?_ | refine SH.g_cons ?_ | refine SH.g_tup ?_ | refine SH.g_lst ?_ | refine SH.g_call ?_ | refine SH.g_fld ?_ | refine SH.g_meth ?_ | refine SH.g_make ?_ | refine SH.g_cb ?_ | refine SH.g_bm ?_
  | refine SH.g_seq ?_ | refine SH.g_asg ?_ | refine SH.g_name ?_ | refine SH.g_drop ?_ | refine SH.g_ret ?_ | refine SH.g_retN ?_ | refine SH.g_next ?_ | refine SH.g_brk ?_ | refine SH.g_cnt ?_ | refine SH.g_ifs ?_ | refine SH.g_par ?_ | refine SH.g_par2 ?_ | refine SH.g_fldS ?_ | refine SH.g_raise ?_ | refine SH.g_rs ?_
  | refine SH.g_sub ?_ | refine SH.g_yes ?_ | refine SH.g_sl ?_ | refine SH.g_noPart ?_ | refine SH.g_part ?_ | refine SH.g_intO ?_ | refine SH.g_dget ?_ | refine SH.g_dput ?_ | refine SH.g_forR ?_ | refine SH.g_forL ?_ | refine SH.g_forT ?_ | refine SH.g_lcR ?_ | refine SH.g_lcL ?_ | refine SH.g_lcT ?_ | refine SH.g_gcons ?_ | refine SH.g_gnil ?_
  | refine SH.br_t ?_ | refine SH.br_f ?_
  | refine SH.g_int ?_ | refine SH.g_abs ?_ | refine SH.g_max2 ?_ | refine SH.g_min2 ?_)
local macro_rules | `(tactic| walk_at "g2") => `(tactic| first
  | walk_at "g1"
  | ((with_reducible refine' SH.g_isiInt ?ga ?gz); (case ga => walk_at "kd"))
  | ((with_reducible refine' SH.g_isiBool ?ga ?gz); (case ga => walk_at "kd"))
  | ((with_reducible refine' SH.g_isiStr ?ga ?gz); (case ga => walk_at "kd"))
  | ((with_reducible refine' SH.g_isiTup ?ga ?gz); (case ga => walk_at "kd"))
  | ((with_reducible refine' SH.g_ixT ?ga ?gb ?gz); (case ga => walk_at "sq"); (case gb => rfl))
  | ((with_reducible refine' SH.g_ixL ?ga ?gb ?gz); (case ga => walk_at "sq"); (case gb => first | rfl | (apply SH.atI_refs; assumption)))
  | ((with_reducible refine SH.br_F ?_ ?_); (· decide +kernel)) | ((with_reducible refine SH.br_T ?_ ?_); (· decide +kernel)) | ((with_reducible refine SH.br_NF ?_ ?_); (· decide +kernel)) | ((with_reducible refine SH.br_NT ?_ ?_); (· decide +kernel))
  | ((with_reducible refine' SH.g_gtup ?ga ?gb ?gz); (case ga => walk_at "sq"); (case gb => rfl))
  | ((with_reducible refine' SH.g_lenT ?ga ?gz); (case ga => walk_at "sq"))
  | ((with_reducible refine' SH.g_lenL ?ga ?gz); (case ga => walk_at "sq"))
  | ((with_reducible refine SH.g_mkT (SH.sz rfl) ?_); intro _ _)
  | ((with_reducible refine SH.g_mkL (SH.sz rfl) ?_); intro _ _)
  | ((with_reducible refine SH.g_dnew ?_); intro _ _)
  | ((with_reducible refine' SH.g_tupL ?ga ?gz); (case ga => walk_at "sq"); intro _ _)
  | ((with_reducible refine' SH.g_lstL ?ga ?gz); (case ga => walk_at "sq"); intro _ _)
  | ((with_reducible refine' SH.g_lstT ?ga ?gz); (case ga => walk_at "sq"); intro _ _)
  | ((with_reducible refine' SH.g_dgR ?ga ?gb ?gz); (case ga => walk_at "hp"); (case gb => walk_at "dv"))
  | ((with_reducible refine' SH.g_fldR ?ga ?gb ?gc ?gd ?gz); (case ga => walk_at "hp"); (case gb => walk_at "cl"); (case gc => walk_at "na"); (case gd => walk_at "fv"))
  | ((with_reducible refine' SH.g_insR ?ga ?gb ?gz); (case ga => walk_at "hp"); (case gb => walk_at "fn"))
  | ((with_reducible refine' SH.g_setL ?ga ?gb ?gz); (case ga => walk_at "hp"); (case gb => rfl))
  | ((with_reducible refine SH.g_I ?_ ?_); (· walk_at "ci"))
  | ((with_reducible refine' SH.g_slL ?ga ?gz); (case ga => walk_at "sq"); intro _ _)
  | ((with_reducible refine' SH.g_cat ?ga ?gb ?gc ?gz); (case ga => walk_at "hp"); (case gb => walk_at "hp"); (case gc => walk_at "ls"); intro _ _))
/-- the side conditions of numbers: a divisor, a factor -/
local macro_rules | `(tactic| walk_at "ci") => `(tactic| first
  | (show _ ≠ _; omega) | (show _ < _; omega) | (constructor <;> omega) | (refine Or.inr ⟨?_, ?_⟩ <;> (show _ < _; omega)) | (refine Or.inl ⟨?_, ?_⟩ <;> (show _ < _; omega)) | (refine ⟨?_, ?_, ?_⟩ <;> decide))
local macro_rules | `(tactic| walk_at "ls") => `(tactic| first | (show _ ≤ _; exact Nat.le_trans (by assumption) (by decide)) | (show _ ≤ _; exact Nat.le_trans (by simp; omega) (by decide : 1000 ≤ sizeLine)))
local macro_rules | `(tactic| walk_at "dv") => `(tactic| rfl)
local macro_rules | `(tactic| walk_at "fv") => `(tactic| rfl)
local macro_rules | `(tactic| walk_at "fn") => `(tactic| rfl)
local macro_rules | `(tactic| walk_at "cl") => `(tactic| assumption)
local macro_rules | `(tactic| walk_at "na") => `(tactic| assumption)
local macro_rules | `(tactic| walk_at "go") => `(tactic| repeat walk_at "g2")
/-- a way is split -/
local macro_rules | `(tactic| walk_at "br") => `(tactic| with_reducible first
  | refine SH.br_d (fun _ => ?_) (fun _ => ?_) | refine SH.br_nd (fun _ => ?_) (fun _ => ?_) | refine SH.br_b (fun _ => ?_) (fun _ => ?_))
/-- all ways -/
local macro_rules | `(tactic| walk_at "all") => `(tactic| repeat' first | walk_at "g2" | (walk_at "br" <;> try (walk_at "no")))
/-- a truth value is the other -/
local macro_rules | `(tactic| walk_at "bq") => `(tactic| first | rfl | (simp_all; done) | (simp_all; omega) | (simp only [decide_eq_true_eq, decide_eq_false_iff_not, Bool.and_eq_true, Bool.or_eq_true] at *; omega))
/-- what was tracked is as it was -/
local macro_rules | `(tactic| walk_at "of") => `(tactic| first
  | assumption
  | exact SH.Off.refl _ _
  | (refine' SH.Off.new2 ?gx (by assumption); (case gx => walk_at "of"))
  | (refine' SH.Off.mut ?gx (by assumption); (case gx => walk_at "of"))
  | (refine' SH.Off.trans' ?gx (by assumption) ?gy; (case gy => (intro _ h; (first | exact h | (simp at h; done) | (simp at h ⊢; simp [h]; done)))); (case gx => walk_at "of")))
namespace SH
open PySem PySem.Spec PyProof.Rows L2
/-! ### the rows of greatest catches, plain -/
def rGet (row : List (Option Int)) (v : Nat) : Option Int := (row[v]?).join
def upd1 (g : List Nat) (s : Nat) (x : Int) (row : List (Option Int)) (c : Nat) : List (Option Int) :=
  match rGet row (gAt g (s - c)) with
  | none => row.set (gAt g (s - c)) (some (x + c))
  | some y => if y < x + c then row.set (gAt g (s - c)) (some (x + c)) else row
def rowS (g : List Nat) (s : Nat) (row : List (Option Int)) : Option Int → List (Option Int)
  | none => row
  | some x => (List.range (s + 1)).foldl (upd1 g s x) row
def nextN (g : List Nat) (T : Nat) (prev : List (Option Int)) : Nat → List (Option Int)
  | 0 => List.replicate (T + 1) none
  | i + 1 => rowS g i (nextN g T prev i) (rGet prev i)
def rowsN (g : List Nat) (T : Nat) : Nat → List (Option Int)
  | 0 => List.replicate (T + 1) (some 0)
  | k + 1 => nextN g T (rowsN g T k) (T + 1)
theorem upd1_len (g : List Nat) (s : Nat) (x : Int) (row : List (Option Int)) (c : Nat) : (upd1 g s x row c).length = row.length := by
  unfold upd1
  split
  · rw [List.length_set]
  · split <;> simp
theorem fold1_len (g : List Nat) (s : Nat) (x : Int) : ∀ (cs : List Nat) (row : List (Option Int)), (cs.foldl (upd1 g s x) row).length = row.length
  | [], _ => rfl
  | c :: cs, row => by rw [List.foldl_cons, fold1_len g s x cs, upd1_len]
theorem rowS_len (g : List Nat) (s : Nat) (row : List (Option Int)) (o : Option Int) : (rowS g s row o).length = row.length := by
  cases o with
  | none => rfl
  | some x => exact fold1_len ..
theorem nextN_len (g : List Nat) (T : Nat) (prev : List (Option Int)) : ∀ i, (nextN g T prev i).length = T + 1
  | 0 => by simp [nextN]
  | i + 1 => by
    show (rowS g i (nextN g T prev i) (rGet prev i)).length = _
    rw [rowS_len, nextN_len g T prev i]
theorem rowsN_len (g : List Nat) (T : Nat) : ∀ k, (rowsN g T k).length = T + 1
  | 0 => by simp [rowsN]
  | k + 1 => nextN_len ..
theorem rGet_some {row : List (Option Int)} {v : Nat} {x : Int} : rGet row v = some x ↔ row[v]? = some (some x) := by
  unfold rGet
  exact Option.join_eq_some_iff
theorem rGet_set {row : List (Option Int)} {v w : Nat} {x : Int} (hv : v < row.length) : rGet (row.set v (some x)) w = if v = w then some x else rGet row w := by
  unfold rGet
  rw [List.getElem?_set]
  by_cases c : v = w
  · subst c
    rw [if_pos rfl, if_pos rfl, if_pos hv]
    rfl
  · rw [if_neg c, if_neg c]
/-- what one catch makes -/
theorem upd1_get {g : List Nat} {s : Nat} {x : Int} {row : List (Option Int)} {c : Nat} (hl : gAt g (s - c) < row.length) (w : Nat) :
    (∀ y, rGet (upd1 g s x row c) w = some y → rGet row w = some y ∨ (w = gAt g (s - c) ∧ y = x + c)) ∧ (∀ y, rGet row w = some y → ∃ z, rGet (upd1 g s x row c) w = some z ∧ y ≤ z) ∧ (∃ z, rGet (upd1 g s x row c) (gAt g (s - c)) = some z ∧ x + c ≤ z) := by
  unfold upd1
  split
  · rename_i h
    refine ⟨fun y hy => ?_, fun y hy => ?_, ⟨x + c, by rw [rGet_set hl, if_pos rfl], Int.le_refl _⟩⟩
    · rw [rGet_set hl] at hy
      split at hy
      · rename_i e
        cases hy
        exact .inr ⟨e.symm, rfl⟩
      · exact .inl hy
    · rw [rGet_set hl]
      split
      · rename_i e
        subst e
        rw [h] at hy; cases hy
      · exact ⟨y, hy, Int.le_refl _⟩
  · rename_i y0 h
    split
    · rename_i lt
      refine ⟨fun y hy => ?_, fun y hy => ?_, ⟨x + c, by rw [rGet_set hl, if_pos rfl], Int.le_refl _⟩⟩
      · rw [rGet_set hl] at hy
        split at hy
        · rename_i e
          cases hy
          exact .inr ⟨e.symm, rfl⟩
        · exact .inl hy
      · rw [rGet_set hl]
        split
        · rename_i e
          subst e
          rw [h] at hy
          cases hy
          exact ⟨_, rfl, by omega⟩
        · exact ⟨y, hy, Int.le_refl _⟩
    · exact ⟨fun y hy => .inl hy, fun y hy => ⟨y, hy, Int.le_refl _⟩, ⟨y0, h, by omega⟩⟩
theorem foldU {g : List Nat} {s T : Nat} {x : Int} (hc : ∀ c, gAt g (s - c) ≤ T) : ∀ (cs : List Nat) (row : List (Option Int)), row.length = T + 1 →
    (∀ w y, rGet (cs.foldl (upd1 g s x) row) w = some y → rGet row w = some y ∨ ∃ c, c ∈ cs ∧ w = gAt g (s - c) ∧ y = x + c) ∧ (∀ w y, rGet row w = some y → ∃ z, rGet (cs.foldl (upd1 g s x) row) w = some z ∧ y ≤ z) ∧
    (∀ c, c ∈ cs → ∃ z, rGet (cs.foldl (upd1 g s x) row) (gAt g (s - c)) = some z ∧ x + c ≤ z)
  | [], row, _ => ⟨fun w y h => .inl h, fun w y h => ⟨y, h, Int.le_refl _⟩, fun c h => by cases h⟩
  | c0 :: cs, row, hl => by
    have hl0 : gAt g (s - c0) < row.length := by have := hc c0; omega
    obtain ⟨i1, i2, i3⟩ := foldU (x := x) hc cs (upd1 g s x row c0) (by rw [upd1_len]; exact hl)
    rw [List.foldl_cons]
    refine ⟨fun w y h => ?_, fun w y h => ?_, fun c h => ?_⟩
    · rcases i1 w y h with h | ⟨c, h1, h2⟩
      · rcases (upd1_get hl0 w).1 y h with h | ⟨h1, h2⟩
        · exact .inl h
        · exact .inr ⟨c0, List.mem_cons_self, h1, h2⟩
      · exact .inr ⟨c, List.mem_cons_of_mem _ h1, h2⟩
    · obtain ⟨z, h1, h2⟩ := (upd1_get (x := x) hl0 w).2.1 y h
      obtain ⟨z', h3, h4⟩ := i2 w z h1
      exact ⟨z', h3, by omega⟩
    · rcases List.mem_cons.mp h with rfl | h
      · obtain ⟨z, h1, h2⟩ := (upd1_get (x := x) hl0 0).2.2
        obtain ⟨z', h3, h4⟩ := i2 _ z h1
        exact ⟨z', h3, by omega⟩
      · exact i3 c h
theorem nextU {g : List Nat} {T : Nat} {prev : List (Option Int)} (cl : ∀ l, l ≤ T → gAt g l ≤ T) : ∀ i, i ≤ T + 1 →
    (∀ w y, rGet (nextN g T prev i) w = some y → ∃ s c x, s < i ∧ rGet prev s = some x ∧ c ≤ s ∧ w = gAt g (s - c) ∧ y = x + (c : Int)) ∧
    (∀ s c x, s < i → rGet prev s = some x → c ≤ s → ∃ z, rGet (nextN g T prev i) (gAt g (s - c)) = some z ∧ x + (c : Int) ≤ z)
  | 0, _ => by
      refine ⟨fun w y h => ?_, fun s c x h => absurd h (Nat.not_lt_zero _)⟩
      have h' : (List.replicate (T + 1) (none : Option Int))[w]? = some (some y) := rGet_some.mp h
      rw [List.getElem?_replicate] at h'
      split at h' <;> cases h' 
  | i + 1, hi => by
    obtain ⟨j1, j2⟩ := nextU cl (prev := prev) i (by omega)
    show (∀ w y, rGet (rowS g i (nextN g T prev i) (rGet prev i)) w = some y → _) ∧ ∀ s c x, _ → _ → _ → ∃ z, rGet (rowS g i (nextN g T prev i) (rGet prev i)) _ = some z ∧ _
    cases hp : rGet prev i with
    | none =>
      refine ⟨fun w y h => ?_, fun s c x hs hx hc => ?_⟩
      · obtain ⟨s, c, x, h1, h2⟩ := j1 w y h
        exact ⟨s, c, x, by omega, h2⟩
      · have : s ≠ i := fun e => by subst e; rw [hp] at hx; cases hx
        exact j2 s c x (by omega) hx hc
    | some x0 =>
      obtain ⟨k1, k2, k3⟩ := foldU (g := g) (s := i) (T := T) (x := x0) (fun c => cl _ (by omega)) (List.range (i + 1)) (nextN g T prev i) (nextN_len ..)
      refine ⟨fun w y h => ?_, fun s c x hs hx hc => ?_⟩
      · rcases k1 w y h with h | ⟨c, h1, h2, h3⟩
        · obtain ⟨s, c, x, h1, h2⟩ := j1 w y h
          exact ⟨s, c, x, by omega, h2⟩
        · exact ⟨i, c, x0, by omega, hp, by have := List.mem_range.mp h1; omega, h2, h3⟩
      · by_cases e : s = i
        · subst e
          rw [hp] at hx
          cases hx
          exact k3 c (List.mem_range.mpr (by omega))
        · obtain ⟨z, h1, h2⟩ := j2 s c x (by omega) hx hc
          obtain ⟨z', h3, h4⟩ := k2 _ z h1
          exact ⟨z', h3, by omega⟩
theorem rowsN_ok {g : List Nat} {T : Nat} (cl : ∀ l, l ≤ T → gAt g l ≤ T) : ∀ k, RowOk g T k (rowsN g T k)
  | 0 => by
    refine ⟨rowsN_len .., fun v x h => ?_, fun u cs hu hl ok => ?_⟩
    · have h' : (List.replicate (T + 1) (some (0 : Int)))[v]? = some (some x) := h
      rw [List.getElem?_replicate] at h'
      split at h'
      · rename_i hv
        cases h'
        exact ⟨v, [], by omega, rfl, trivial, rfl, rfl⟩
      · cases h'
    · have e : cs = [] := List.eq_nil_of_length_eq_zero hl
      subst e
      refine ⟨0, ?_, Int.le_refl _⟩
      show (List.replicate (T + 1) (some (0 : Int)))[u]? = _
      rw [List.getElem?_replicate, if_pos (by omega)]
  | k + 1 => by
    have ih := rowsN_ok cl k
    obtain ⟨j1, j2⟩ := nextU cl (prev := rowsN g T k) (T + 1) (Nat.le_refl _)
    refine ⟨rowsN_len .., fun v x h => ?_, fun u cs hu hl ok => ?_⟩
    · obtain ⟨s, c, y, h1, h2, h3, h4, h5⟩ := j1 v x (rGet_some.mpr h)
      obtain ⟨u, cs, g1, g2, g3, g4, g5⟩ := ih.snd s y (rGet_some.mp h2)
      refine ⟨u, cs ++ [c], g1, by simp [g2], (okR_app _).mpr ⟨g3, by rw [g4]; exact ⟨h3, trivial⟩⟩, by rw [run_app, g4, h4]; rfl, ?_⟩
      rw [sumN_app, g5, h5]
      show y + ((c : Int) + 0) = _
      omega
    · have e : cs = cs.dropLast ++ [cs.getLast (fun z => by rw [z] at hl; cases hl)] := (List.dropLast_concat_getLast _).symm
      generalize cs.getLast (fun z => by rw [z] at hl; cases hl) = c at e
      have ld : cs.dropLast.length = k := by rw [List.length_dropLast]; omega
      generalize cs.dropLast = ds at *
      subst e
      obtain ⟨o1, o2⟩ := (okR_app _).mp ok
      obtain ⟨y, h1, h2⟩ := ih.cpl u ds hu ld o1
      obtain ⟨z, h3, h4⟩ := j2 (run g u ds) c y (by have := run_le cl ds hu; omega) (rGet_some.mpr h1) o2.1
      refine ⟨z, ?_, ?_⟩
      · rw [run_app]
        exact rGet_some.mp h3
      · rw [sumN_app]
        show _ + ((c : Int) + 0) ≤ _
        omega
/-! #### means -/
def lesserP (a : Int × Int) : Option (Int × Int) → Int × Int
  | none => a
  | some b => if a.1 * b.2 ≤ b.1 * a.2 then a else b
def worstN (row : Nat → List (Option Int)) (n v : Nat) (d : Int) : Nat → Option (Int × Int)
  | 0 => none
  | k + 1 => match rGet (row k) v with
    | some y => some (lesserP (d - y, ((n - k : Nat) : Int)) (worstN row n v d k))
    | none => worstN row n v d k
def worstM (row : Nat → List (Option Int)) (n v : Nat) : Option (Int × Int) := match rGet (row n) v with
  | some d => worstN row n v d n
  | none => none
def bestN (row : Nat → List (Option Int)) (n : Nat) : Nat → Int × Int
  | 0 => (0, 1)
  | v + 1 => match worstM row n v with
    | some f => if f.1 * (bestN row n v).2 > (bestN row n v).1 * f.2 then f else bestN row n v
    | none => bestN row n v
def bestM (g : List Nat) (T : Nat) : Int × Int :=
  let b := bestN (rowsN g T) (T + 1) (T + 1)
  (b.1 / ((Nat.gcd b.1.toNat b.2.toNat : Nat) : Int), b.2 / ((Nat.gcd b.1.toNat b.2.toNat : Nat) : Int))
/-- the least of the means -/
structure WorOk (row : Nat → List (Option Int)) (n v m : Nat) (d : Int) (f : Int × Int) : Prop where
  at_ : ∃ k y, k < m ∧ rGet (row k) v = some y ∧ f = (d - y, ((n - k : Nat) : Int))
  le : ∀ k y, k < m → rGet (row k) v = some y → f.1 * ((n - k : Nat) : Int) ≤ (d - y) * f.2
theorem cross {a b c d e f : Int} (hb : 0 < b) (hd : 0 < d) (hf : 0 < f) (h1 : a * d ≤ c * b) (h2 : c * f ≤ e * d) : a * f ≤ e * b := by
  have h3 : a * d * f ≤ c * b * f := Int.mul_le_mul_of_nonneg_right h1 (by omega)
  have h4 : c * f * b ≤ e * d * b := Int.mul_le_mul_of_nonneg_right h2 (by omega)
  have e1 : a * d * f = a * f * d := by rw [Int.mul_assoc, Int.mul_comm d f, ← Int.mul_assoc]
  have e2 : c * b * f = c * f * b := by rw [Int.mul_assoc, Int.mul_comm b f, ← Int.mul_assoc]
  have e3 : e * d * b = e * b * d := by rw [Int.mul_assoc, Int.mul_comm d b, ← Int.mul_assoc]
  exact Int.le_of_mul_le_mul_right (show a * f * d ≤ e * b * d by omega) hd
theorem worstN_ok {row : Nat → List (Option Int)} {n v : Nat} {d : Int} : ∀ m, m ≤ n → match worstN row n v d m with
    | some f => WorOk row n v m d f
    | none => ∀ k, k < m → rGet (row k) v = none
  | 0, _ => fun k h => absurd h (Nat.not_lt_zero _)
  | m + 1, hm => by
    have ih := worstN_ok (row := row) (n := n) (v := v) (d := d) m (by omega)
    unfold worstN
    cases hr : rGet (row m) v with
    | none =>
      show match worstN row n v d m with | some f => WorOk row n v (m + 1) d f | none => ∀ k, k < m + 1 → rGet (row k) v = none
      split
      · rename_i f e
        rw [e] at ih
        obtain ⟨⟨k, y, h1, h2⟩, h3⟩ := ih
        refine ⟨⟨k, y, by omega, h2⟩, fun k y hk hy => ?_⟩
        have : k ≠ m := fun e => by subst e; rw [hr] at hy; cases hy
        exact h3 k y (by omega) hy
      · rename_i e
        rw [e] at ih
        intro k hk
        by_cases c : k = m
        · subst c; exact hr
        · exact ih k (by omega)
    | some y0 =>
      show WorOk row n v (m + 1) d (lesserP (d - y0, ((n - m : Nat) : Int)) (worstN row n v d m))
      have pos : ∀ k : Nat, k < m + 1 → 0 < ((n - k : Nat) : Int) := fun k hk => by omega
      cases hw : worstN row n v d m with
      | none =>
        rw [hw] at ih
        refine ⟨⟨m, y0, by omega, hr, rfl⟩, fun k y hk hy => ?_⟩
        have : k = m := by
          refine Classical.byContradiction fun c => ?_
          have := ih k (by omega)
          rw [this] at hy; cases hy
        subst this
        rw [hr] at hy
        cases hy
        exact Int.le_refl _
      | some f =>
        rw [hw] at ih
        obtain ⟨⟨k1, y1, g1, g2, g3⟩, g4⟩ := ih
        have pf : 0 < f.2 := by rw [g3]; exact pos k1 (by omega)
        show WorOk row n v (m + 1) d (if (d - y0) * f.2 ≤ f.1 * ((n - m : Nat) : Int) then (d - y0, ((n - m : Nat) : Int)) else f)
        split
        · rename_i c
          refine ⟨⟨m, y0, by omega, hr, rfl⟩, fun k y hk hy => ?_⟩
          by_cases e : k = m
          · subst e
            rw [hr] at hy
            cases hy
            exact Int.le_refl _
          · exact cross (pos m (by omega)) pf (pos k hk) c (g4 k y (by omega) hy)
        · rename_i c
          refine ⟨⟨k1, y1, by omega, g2, g3⟩, fun k y hk hy => ?_⟩
          by_cases e : k = m
          · subst e
            rw [hr] at hy
            cases hy
            omega
          · exact g4 k y (by omega) hy
theorem worstM_ok {row : Nat → List (Option Int)} {n v : Nat} {f : Int × Int} (h : worstM row n v = some f) : ∃ d, rGet (row n) v = some d ∧ WorOk row n v n d f := by
  unfold worstM at h
  split at h
  · rename_i d hd
    have := worstN_ok (row := row) (v := v) (d := d) n (Nat.le_refl _)
    rw [h] at this
    exact ⟨d, hd, this⟩
  · cases h
theorem worstM_some {row : Nat → List (Option Int)} {n v : Nat} {d y : Int} (hn : 0 < n) (h : rGet (row n) v = some d) (h0 : rGet (row 0) v = some y) : ∃ f, worstM row n v = some f := by
  unfold worstM
  rw [h]
  show ∃ f, worstN row n v d n = some f
  have := worstN_ok (row := row) (v := v) (d := d) n (Nat.le_refl _)
  cases hw : worstN row n v d n with
  | some f => exact ⟨f, rfl⟩
  | none =>
    rw [hw] at this
    have := this 0 hn
    rw [this] at h0; cases h0
structure BstOk (row : Nat → List (Option Int)) (n m : Nat) (b : Int × Int) : Prop where
  n0 : 0 ≤ b.1
  d0 : 0 < b.2
  d1 : b.2 ≤ 1 + n
  at_ : b = (0, 1) ∨ ∃ v, v < m ∧ worstM row n v = some b
  le : ∀ v f, v < m → worstM row n v = some f → f.1 * b.2 ≤ b.1 * f.2
theorem bestN_ok {row : Nat → List (Option Int)} {n : Nat} : ∀ m, BstOk row n m (bestN row n m)
  | 0 => ⟨Int.le_refl _, Int.zero_lt_one, (by show (1 : Int) ≤ 1 + n; omega), .inl rfl, fun v f h => absurd h (Nat.not_lt_zero _)⟩
  | m + 1 => by
    have ih := bestN_ok (row := row) (n := n) m
    unfold bestN
    cases hw : worstM row n m with
    | none =>
      show BstOk row n (m + 1) (bestN row n m)
      refine ⟨ih.n0, ih.d0, ih.d1, ih.at_.imp id fun ⟨v, h1, h2⟩ => ⟨v, by omega, h2⟩, fun v f hv hf => ?_⟩
      have : v ≠ m := fun e => by subst e; rw [hw] at hf; cases hf
      exact ih.le v f (by omega) hf
    | some f =>
      obtain ⟨d, hd, ⟨k, y, k1, k2, k3⟩, hle⟩ := worstM_ok hw
      have pf : 0 < f.2 := by rw [k3]; show 0 < ((n - k : Nat) : Int); omega
      have pf1 : f.2 ≤ 1 + n := by rw [k3]; show ((n - k : Nat) : Int) ≤ 1 + n; omega
      show BstOk row n (m + 1) (if f.1 * (bestN row n m).2 > (bestN row n m).1 * f.2 then f else bestN row n m)
      have pb := ih.d0
      split
      · rename_i c
        refine ⟨?_, pf, pf1, .inr ⟨m, by omega, hw⟩, fun v f' hv hf' => ?_⟩
        · have h1 : 0 ≤ (bestN row n m).1 * f.2 := Int.mul_nonneg ih.n0 (by omega)
          refine Classical.byContradiction fun no => ?_
          have h2 : f.1 * (bestN row n m).2 ≤ 0 := Int.mul_nonpos_of_nonpos_of_nonneg (by omega) (by omega)
          omega
        · by_cases e : v = m
          · subst e
            rw [hw] at hf'
            cases hf'
            exact Int.le_refl _
          · obtain ⟨d', _, ⟨k', y', k1', k2', k3'⟩, _⟩ := worstM_ok hf'
            have pf' : 0 < f'.2 := by rw [k3']; show 0 < ((n - k' : Nat) : Int); omega
            exact cross pf' pb pf (ih.le v f' (by omega) hf') (by omega)
      · rename_i c
        refine ⟨ih.n0, ih.d0, ih.d1, ih.at_.imp id fun ⟨v, h1, h2⟩ => ⟨v, by omega, h2⟩, fun v f' hv hf' => ?_⟩
        by_cases e : v = m
        · subst e
          rw [hw] at hf'
          cases hf'
          omega
        · exact ih.le v f' (by omega) hf'
/-- the mean that is told -/
structure MeanOk (g : List Nat) (T : Nat) (N D : Int) : Prop where
  n0 : 0 ≤ N
  d0 : 0 < D
  d1 : D ≤ 2 + (T : Int)
  low : Nat.gcd N.toNat D.toNat = 1
  pot : ∃ h, Pot g T N D h
  cyc : ∃ w cs, w ≤ T ∧ cs ≠ [] ∧ okR g w cs ∧ run g w cs = w ∧ 0 ≤ wgt N D cs
theorem bestM_ok {g : List Nat} (G : GrOk g) {T : Nat} (hT : T < g.length) (cl : ∀ l, l ≤ T → gAt g l ≤ T) : MeanOk g T (bestM g T).1 (bestM g T).2 := by
  have b := bestN_ok (row := rowsN g T) (n := T + 1) (T + 1)
  unfold bestM
  generalize bestN (rowsN g T) (T + 1) (T + 1) = p at b
  obtain ⟨N, D⟩ := p
  obtain ⟨n0, d0, d1, at_, le⟩ := b
  have n0 : 0 ≤ N := n0
  have d0 : 0 < D := d0
  have d1 : D ≤ 1 + ((T + 1 : Nat) : Int) := d1
  show MeanOk g T (N / ((Nat.gcd N.toNat D.toNat : Nat) : Int)) (D / ((Nat.gcd N.toNat D.toNat : Nat) : Int))
  obtain ⟨a, rfl⟩ := Int.eq_ofNat_of_zero_le n0
  obtain ⟨c, rfl⟩ := Int.eq_ofNat_of_zero_le (show 0 ≤ D by omega)
  rw [Int.toNat_natCast, Int.toNat_natCast]
  have g0 : 0 < Nat.gcd a c := Nat.gcd_pos_of_pos_right a (by omega)
  have ea := Nat.div_mul_cancel (Nat.gcd_dvd_left a c)
  have ec := Nat.div_mul_cancel (Nat.gcd_dvd_right a c)
  have hcop : Nat.gcd (a / Nat.gcd a c) (c / Nat.gcd a c) = 1 := Nat.gcd_div_gcd_div_gcd_of_pos_right (by omega)
  have hcle : c / Nat.gcd a c ≤ c := Nat.div_le_self _ _
  rw [← Int.natCast_ediv, ← Int.natCast_ediv]
  generalize a / Nat.gcd a c = a' at *
  generalize c / Nat.gcd a c = c' at *
  generalize Nat.gcd a c = q at *
  have eA : (a : Int) = (a' : Int) * (q : Int) := by rw [← Int.natCast_mul, ea]
  have eC : (c : Int) = (c' : Int) * (q : Int) := by rw [← Int.natCast_mul, ec]
  have c0 : 0 < c' := Nat.pos_of_ne_zero fun z => by rw [z, Nat.zero_mul] at ec; omega
  have q0 : (0 : Int) < (q : Int) := by omega
  have down : ∀ x y : Int, x * (c : Int) ≤ (a : Int) * y → x * (c' : Int) ≤ (a' : Int) * y := fun x y h => by
    rw [eA, eC, ← Int.mul_assoc, Int.mul_assoc (a' : Int), Int.mul_comm (q : Int) y, ← Int.mul_assoc] at h
    exact Int.le_of_mul_le_mul_right h q0
  have down2 : ∀ x y : Int, (a : Int) * y ≤ x * (c : Int) → (a' : Int) * y ≤ x * (c' : Int) := fun x y h => by
    rw [eA, eC, ← Int.mul_assoc, Int.mul_assoc (a' : Int), Int.mul_comm (q : Int) y, ← Int.mul_assoc] at h
    exact Int.le_of_mul_le_mul_right h q0
  have rok := fun k => rowsN_ok (g := g) (T := T) cl k
  refine ⟨by omega, by omega, by omega, by rw [Int.toNat_natCast, Int.toNat_natCast]; exact hcop, ?_, ?_⟩
  · refine karp_pot (rowsN g T) (fun k _ => rok k) cl (by omega) fun v x hv hx => ?_
    have h0 : rGet (rowsN g T 0) v = some 0 := by
      refine rGet_some.mpr ?_
      show (List.replicate (T + 1) (some (0 : Int)))[v]? = _
      rw [List.getElem?_replicate, if_pos (by omega)]
    obtain ⟨f, hf⟩ := worstM_some (n := T + 1) (by omega) (rGet_some.mpr hx) h0
    obtain ⟨d, hd, ⟨k, y, k1, k2, k3⟩, _⟩ := worstM_ok hf
    rw [rGet_some.mpr hx] at hd
    cases hd
    have h1 := le v f (by omega) hf
    rw [k3] at h1
    exact ⟨k, y, k1, rGet_some.mp k2, down _ _ h1⟩
  · rcases at_ with e | ⟨v, hv, hw⟩
    · have e1 : (a : Int) = 0 := congrArg Prod.fst e
      have e2 : (c : Int) = 1 := congrArg Prod.snd e
      have e1' : a = 0 := by omega
      have e2' : c = 1 := by omega
      rw [e1'] at ea
      rw [e2'] at ec
      have : a' = 0 := by
        rcases Nat.mul_eq_zero.mp ea with h | h
        · exact h
        · omega
      have c1 : c' = 1 := by
        have := Nat.le_of_dvd (by omega : 0 < 1) (⟨q, ec.symm⟩ : c' ∣ 1)
        omega
      subst this
      subst c1
      exact rest_cycle G hT cl
    · obtain ⟨d, hd, _, hle⟩ := worstM_ok hw
      refine karp_cycle (rowsN g T) (fun k _ => rok k) cl (by omega) (rGet_some.mp hd) fun k y hk hy => ?_
      exact down2 _ _ (hle k y hk (rGet_some.mpr hy))
end SH
end

section
/-! #### the walk's words -/
local macro_rules | `(tactic| walk_at "ne0") => `(tactic| first
  | assumption
  | (refine Ne.symm ?_; assumption))
local macro_rules | `(tactic| walk_at "ne") => `(tactic| first
  | assumption
  | (refine Ne.symm ?_; assumption)
  | (refine' L2.ne_of_none ?gx (by assumption); (case gx => walk_at "hp"))
  | (refine' Ne.symm (L2.ne_of_none ?gx (by assumption)); (case gx => walk_at "hp")))
local macro_rules | `(tactic| walk_at "hp") => `(tactic| first
  | assumption
  | exact L2.upd_same
  | (refine' SH.upd_new ?gh (by assumption); (case gh => walk_at "hp"))
  | (refine' (L2.upd_ne ?gn).trans ?gh; (case gn => walk_at "ne0"); (case gh => walk_at "hp"))
  | (refine' SH.Off.at (by assumption) ?gn ?gh; (case gn => walk_at "nin"); (case gh => walk_at "hp")))
local macro_rules | `(tactic| walk_at "nin") => `(tactic| first
  | exact SH.nin_nil
  | (refine SH.nin_cons ?_ ?_; (· walk_at "ne0"); (· walk_at "nin")))
local macro_rules | `(tactic| walk_at "sq") => `(tactic| first
  | assumption
  | (apply L2.SqL.of; (· walk_at "hp"))
  | (apply L2.SqT.of; (· walk_at "hp"))
  | (refine' SH.seqT_new ?gx (by assumption); (case gx => walk_at "sq"))
  | (refine' SH.seqL_new ?gx (by assumption); (case gx => walk_at "sq"))
  | (refine' SH.Off.seqT (by assumption) ?gx; (case gx => walk_at "sq"))
  | (refine' SH.Off.seqL (by assumption) ?gy ?gx; (case gx => walk_at "sq"); (case gy => walk_at "nin")))
local macro_rules | `(tactic| walk_at "kd") => `(tactic| first
  | assumption | exact SH.KdV.int _ | exact SH.KdV.bl _ | exact SH.KdV.str _ | exact SH.KdV.non
  | (apply SH.KdV.tup; (· walk_at "sq")) | (apply SH.KdV.lst; (· walk_at "sq")))
/-- a way that cannot be -/
local macro_rules | `(tactic| walk_at "no") => `(tactic| (exfalso; first | assumption | omega | contradiction | (simp_all; done)))
/-- one step -/
local macro_rules | `(tactic| walk_at "g1") => `(tactic| with_reducible first
  | refine SH.g_var (by with_unfolding_all rfl) ?_ | refine SH.g_c ?_ | refine SH.g_op ?_ | refine SH.g_un ?_ | refine SH.g_I0 ?_ | refine SH.g_U ?_
  | refine SH.g_eqI ?_ | refine SH.g_neI ?_ | refine SH.g_eqS ?_ | refine SH.g_neS ?_
  | refine SH.g_test ?_ | refine SH.g_B ?_ | refine SH.g_isB ?_ | refine SH.g_and ?_ | refine SH.g_or ?_ | refine SH.g_not ?_ | refine SH.g_andV ?_ | refine SH.g_orV ?_ | refine SH.g_notV ?_ | refine SH.g_ifE ?_ | refine SH.g_chain ?_
  | refine SH.g_nil ?_ | refine SH.g_cons ?_ | refine SH.g_tup ?_ | refine SH.g_lst ?_ | refine SH.g_call ?_ | refine SH.g_fld ?_ | refine SH.g_meth ?_ | refine SH.g_make ?_ | refine SH.g_cb ?_ | refine SH.g_bm ?_
  | refine SH.g_seq ?_ | refine SH.g_asg ?_ | refine SH.g_name ?_ | refine SH.g_drop ?_ | refine SH.g_ret ?_ | refine SH.g_retN ?_ | refine SH.g_next ?_ | refine SH.g_brk ?_ | refine SH.g_cnt ?_ | refine SH.g_ifs ?_ | refine SH.g_par ?_ | refine SH.g_par2 ?_ | refine SH.g_fldS ?_ | refine SH.g_raise ?_ | refine SH.g_rs ?_
  | refine SH.g_sub ?_ | refine SH.g_yes ?_ | refine SH.g_sl ?_ | refine SH.g_noPart ?_ | refine SH.g_part ?_ | refine SH.g_intO ?_ | refine SH.g_dget ?_ | refine SH.g_dput ?_ | refine SH.g_forR ?_ | refine SH.g_forL ?_ | refine SH.g_forT ?_ | refine SH.g_lcR ?_ | refine SH.g_lcL ?_ | refine SH.g_lcT ?_ | refine SH.g_gcons ?_ | refine SH.g_gnil ?_
  | refine SH.br_t ?_ | refine SH.br_f ?_
  | refine SH.g_int ?_ | refine SH.g_abs ?_ | refine SH.g_max2 ?_ | refine SH.g_min2 ?_)
local macro_rules | `(tactic| walk_at "g2") => `(tactic| first
  | walk_at "g1"
  | ((with_reducible refine' SH.g_isiInt ?ga ?gz); (case ga => walk_at "kd"))
  | ((with_reducible refine' SH.g_isiBool ?ga ?gz); (case ga => walk_at "kd"))
  | ((with_reducible refine' SH.g_isiStr ?ga ?gz); (case ga => walk_at "kd"))
  | ((with_reducible refine' SH.g_isiTup ?ga ?gz); (case ga => walk_at "kd"))
  | ((with_reducible refine' SH.g_ixT ?ga ?gb ?gz); (case ga => walk_at "sq"); (case gb => rfl))
  | ((with_reducible refine' SH.g_ixL ?ga ?gb ?gz); (case ga => walk_at "sq"); (case gb => first | rfl | (apply SH.atI_refs; assumption)))
  | ((with_reducible refine SH.br_F ?_ ?_); (· decide +kernel)) | ((with_reducible refine SH.br_T ?_ ?_); (· decide +kernel)) | ((with_reducible refine SH.br_NF ?_ ?_); (· decide +kernel)) | ((with_reducible refine SH.br_NT ?_ ?_); (· decide +kernel))
  | ((with_reducible refine' SH.g_gtup ?ga ?gb ?gz); (case ga => walk_at "sq"); (case gb => rfl))
  | ((with_reducible refine' SH.g_lenT ?ga ?gz); (case ga => walk_at "sq"))
  | ((with_reducible refine' SH.g_lenL ?ga ?gz); (case ga => walk_at "sq"))
  | ((with_reducible refine SH.g_mkT (SH.sz rfl) ?_); intro _ _)
  | ((with_reducible refine SH.g_mkL (SH.sz rfl) ?_); intro _ _)
  | ((with_reducible refine SH.g_dnew ?_); intro _ _)
  | ((with_reducible refine' SH.g_tupL ?ga ?gz); (case ga => walk_at "sq"); intro _ _)
  | ((with_reducible refine' SH.g_lstL ?ga ?gz); (case ga => walk_at "sq"); intro _ _)
  | ((with_reducible refine' SH.g_lstT ?ga ?gz); (case ga => walk_at "sq"); intro _ _)
  | ((with_reducible refine' SH.g_dgR ?ga ?gb ?gz); (case ga => walk_at "hp"); (case gb => walk_at "dv"))
  | ((with_reducible refine' SH.g_fldR ?ga ?gb ?gc ?gd ?gz); (case ga => walk_at "hp"); (case gb => walk_at "cl"); (case gc => walk_at "na"); (case gd => walk_at "fv"))
  | ((with_reducible refine' SH.g_insR ?ga ?gb ?gz); (case ga => walk_at "hp"); (case gb => walk_at "fn"))
  | ((with_reducible refine' SH.g_setL ?ga ?gb ?gz); (case ga => walk_at "hp"); (case gb => rfl))
  | ((with_reducible refine SH.g_I ?_ ?_); (· walk_at "ci"))
  | ((with_reducible refine' SH.g_slL ?ga ?gz); (case ga => walk_at "sq"); intro _ _)
  | ((with_reducible refine' SH.g_cat ?ga ?gb ?gc ?gz); (case ga => walk_at "hp"); (case gb => walk_at "hp"); (case gc => walk_at "ls"); intro _ _))
/-- the side conditions of numbers: a divisor, a factor -/
local macro_rules | `(tactic| walk_at "ci") => `(tactic| first
  | (show _ ≠ _; omega) | (show _ < _; omega) | (constructor <;> omega) | (refine Or.inr ⟨?_, ?_⟩ <;> (show _ < _; omega)) | (refine Or.inl ⟨?_, ?_⟩ <;> (show _ < _; omega)) | (refine ⟨?_, ?_, ?_⟩ <;> decide))
local macro_rules | `(tactic| walk_at "ls") => `(tactic| first | (show _ ≤ _; exact Nat.le_trans (by assumption) (by decide)) | (show _ ≤ _; exact Nat.le_trans (by simp; omega) (by decide : 1000 ≤ sizeLine)))
local macro_rules | `(tactic| walk_at "dv") => `(tactic| rfl)
local macro_rules | `(tactic| walk_at "fv") => `(tactic| rfl)
local macro_rules | `(tactic| walk_at "fn") => `(tactic| rfl)
local macro_rules | `(tactic| walk_at "cl") => `(tactic| assumption)
local macro_rules | `(tactic| walk_at "na") => `(tactic| assumption)
local macro_rules | `(tactic| walk_at "go") => `(tactic| repeat walk_at "g2")
/-- a way is split -/
local macro_rules | `(tactic| walk_at "br") => `(tactic| with_reducible first
  | refine SH.br_d (fun _ => ?_) (fun _ => ?_) | refine SH.br_nd (fun _ => ?_) (fun _ => ?_) | refine SH.br_b (fun _ => ?_) (fun _ => ?_))
/-- all ways -/
local macro_rules | `(tactic| walk_at "all") => `(tactic| repeat' first | walk_at "g2" | (walk_at "br" <;> try (walk_at "no")))
/-- a truth value is the other -/
local macro_rules | `(tactic| walk_at "bq") => `(tactic| first | rfl | (simp_all; done) | (simp_all; omega) | (simp only [decide_eq_true_eq, decide_eq_false_iff_not, Bool.and_eq_true, Bool.or_eq_true] at *; omega))
/-- what was tracked is as it was -/
local macro_rules | `(tactic| walk_at "of") => `(tactic| first
  | assumption
  | exact SH.Off.refl _ _
  | (refine' SH.Off.new2 ?gx (by assumption); (case gx => walk_at "of"))
  | (refine' SH.Off.mut ?gx (by assumption); (case gx => walk_at "of"))
  | (refine' SH.Off.trans' ?gx (by assumption) ?gy; (case gy => (intro _ h; (first | exact h | (simp at h; done) | (simp at h ⊢; simp [h]; done)))); (case gx => walk_at "of")))
namespace SH
open PySem PySem.Spec PyProof.Rows L2
/-! ### values.py -/
def spIsInteger (K : PySem.W.Frag) : Sp := fun vs H Q _ => ∃ x k, vs = [x] ∧ KdV K H x k ∧ Q (.bl (k == .int)) H
def inB (lo hi : Int) : V → Bool
  | .int i => decide (lo ≤ i) && decide (i ≤ hi)
  | _ => false
def spIsIn (K : PySem.W.Frag) : Sp := fun vs H Q _ => ∃ x k lo hi, vs = [x, .int lo, .int hi] ∧ KdV K H x k ∧ Q (.bl (inB lo hi x)) H
/-- a tuple whose length is between -/
def btwB (K : PySem.W.Frag) (H : Hp) (lo hi : Int) (x : V) (b : Bool) : Prop :=
  (∃ p xs, x = .ref p ∧ SqT K H p xs ∧ b = (decide (lo ≤ (xs.length : Int)) && decide ((xs.length : Int) ≤ hi))) ∨ (∃ k, KdV K H x k ∧ k ≠ .tup ∧ b = false)
def spAreBetween (K : PySem.W.Frag) : Sp := fun vs H Q _ => ∃ x lo hi b, vs = [x, .int lo, .int hi] ∧ btwB K H lo hi x b ∧ Q (.bl b) H
/-- the wish of an own error: its class at C, its field f holds v -/
def RaiseW (C : Addr) (f : Str) (v : V) (H : Hp) (E : XK) : Prop := ∀ d, H d = none → E (.ref C) (some d) (upd H d (.xd [(f, v)]))
def spDemand (K : PySem.W.Frag) : Sp := fun vs H Q E => ∃ b n, vs = [.bl b, .str n] ∧ (b = true → Q .non H) ∧ (b = false → RaiseW (He.ga K "BadArgument") "name" (.str n) H E)
theorem qb {Q : VK} {a b : Bool} {H : Hp} (q : Q (.bl a) H) (e : a = b) : Q (.bl b) H := e ▸ q
section
variable {P : Program} {w : World} {K : PySem.W.Frag} {mg : Str → Option Value} {base : Heap}
theorem ok_is_integer (T : Txt P w K mg) : DefOk P w K mg base "is_integer" 1 ["value"] (spIsInteger K) := by
  refine T.d_is_integer.ok sc_is_integer (fun _ _ _ _ _ _ us hl => match us, hl with | [_], _ => rfl) (fun vs H Q E h => ?_) (fun f cdv A outer s H vs Q E hr h => ?_)
  · obtain ⟨x, k, rfl, _⟩ := h
    rfl
  · obtain ⟨x, k, rfl, hk, q⟩ := h
    have B := T.blt
    have hu := hu_of hr
    refine ⟨_, (pss_one (ps_ret (pe_and (pe_callB (call_isiK' (K := K) rfl) (by rfl) B.b_isinstance (by decide +kernel) (pa_cons (pv 0) (pa_cons (pe_bltn (v := .ty "int") rfl B.b_int (by decide +kernel) rfl) pa_nil))) (pe_one (pe_not (pe_callB (call_isiK' (K := K) rfl) (by rfl) B.b_isinstance (by decide +kernel) (pa_cons (pv 0) (pa_cons (pe_bltn (v := .ty "bool") rfl B.b_bool (by decide +kernel) rfl) pa_nil)))))))), ?_⟩
    walk_at "all"
    all_goals (refine qb q ?_; cases k <;> simp_all)
theorem ok_is_in (T : Txt P w K mg) : DefOk P w K mg base "is_in" 2 ["value", "low", "high"] (spIsIn K) := by
  refine T.d_is_in.ok sc_is_in (fun _ _ _ _ _ _ us hl => match us, hl with | [_, _, _], _ => rfl) (fun vs H Q E h => ?_) (fun f cdv A outer s H vs Q E hr h => ?_)
  · obtain ⟨x, k, lo, hi, rfl, _⟩ := h
    rfl
  · obtain ⟨x, k, lo, hi, rfl, hk, q⟩ := h
    have B := T.blt
    have hu := hu_of hr
    have G_is_integer := ok_is_integer (base := base) T
    refine ⟨_, (pss_one (ps_ret (pe_and (pe_df G_is_integer (hr.mono (by decide)) (L2N.passes_call (L2N.takes_of rfl rfl rfl rfl) fun _ _ _ _ z => z) (pa_cons (pv 0) pa_nil)) (pe_one (pe_chain op_le op_le (pv 1) (pv 0) (pv 2)))))), ?_⟩
    walk_at "go"
    refine ⟨x, k, rfl, hk, ?_⟩
    cases hk with
    | int i =>
      walk_at "all"
      all_goals (refine qb q ?_; (simp only [inB]; walk_at "bq"))
    | _ =>
      walk_at "all"
      all_goals (refine qb q ?_; first | rfl | (simp only [inB]; walk_at "bq"))
theorem ok_are_between (T : Txt P w K mg) : DefOk P w K mg base "are_between" 1 ["value", "least", "most"] (spAreBetween K) := by
  refine T.d_are_between.ok sc_are_between (fun _ _ _ _ _ _ us hl => match us, hl with | [_, _, _], _ => rfl) (fun vs H Q E h => ?_) (fun f cdv A outer s H vs Q E hr h => ?_)
  · obtain ⟨x, lo, hi, b, rfl, _⟩ := h
    rfl
  · obtain ⟨x, lo, hi, b, rfl, hb, q⟩ := h
    have B := T.blt
    have hu := hu_of hr
    refine ⟨_, (pss_one (ps_ret (pe_and (pe_callB (call_isiK' (K := K) rfl) (by rfl) B.b_isinstance (by decide +kernel) (pa_cons (pv 0) (pa_cons (pe_bltn (v := .ty "tuple") rfl B.b_tuple (by decide +kernel) rfl) pa_nil))) (pe_one (pe_chain op_le op_le (pv 1) (pe_callB (c_lenK (K := K) rfl) (by rfl) B.b_len PySem.boot_len (pa_cons (pv 0) pa_nil)) (pv 2)))))), ?_⟩
    rcases hb with ⟨p, xs, rfl, hp, rfl⟩ | ⟨k, hk, nk, rfl⟩
    · have hk : KdV K H (.ref p) .tup := .tup hp
      walk_at "all"
      all_goals (refine qb q ?_; walk_at "bq")
    · walk_at "all"
      all_goals (first | (refine qb q ?_; simp_all; done) | (exfalso; cases k <;> simp_all))
theorem ok_demand (T : Txt P w K mg) : DefOk P w K mg base "demand" 2 ["is_good", "name"] (spDemand K) := by
  refine T.d_demand.ok sc_demand (fun _ _ _ _ _ _ us hl => match us, hl with | [_, _], _ => rfl) (fun vs H Q E h => ?_) (fun f cdv A outer s H vs Q E hr h => ?_)
  · obtain ⟨b, n, rfl, _⟩ := h
    rfl
  · obtain ⟨b, n, rfl, q1, q2⟩ := h
    have B := T.blt
    have hu := hu_of hr
    have X_BadArgument := T.x_BadArgument
    refine ⟨_, (pss_one (ps_if (pt_not (pt_val (pv 0) (by intro _; rfl)))
    (pss_one (ps_raiseXs rfl X_BadArgument (hr.mono (by decide)) (L2N.takes_of rfl rfl rfl rfl) (pa_cons (pv 1) pa_nil)))
    pss_nil)), ?_⟩
    cases b with
    | true =>
      walk_at "all"
      exact q1 rfl
    | false =>
      walk_at "all"
      exact q2 rfl
end
end SH
end

section
namespace SH
open PySem PySem.Spec PyProof.Rows L2
/-! ### sums of tuples, dicts of numbers, zips of tuples, stars -/
section
variable {prog : Program} {w : World} {A : Around} {E : Value → Shared → Prop} {s : Shared} {l : Addr} {its : List Value} {ns : List Int} {Q : Value → Shared → Prop}
theorem sum_bnd : ∀ {ns : List Int}, (∀ n ∈ ns, 0 ≤ n ∧ n ≤ 1000000) → 0 ≤ ns.sum ∧ ns.sum ≤ 1000000 * (ns.length : Int)
  | [], _ => by simp
  | n :: ns, h => by
    have h1 := h n List.mem_cons_self
    have h2 := sum_bnd (ns := ns) fun x hx => h x (List.mem_cons_of_mem _ hx)
    rw [List.sum_cons, List.length_cons]
    omega
theorem sum_rawT (hh : A.handled = none) (hl : s.heap.IsTuple l its.toArray) (hi : IntsAre its ns) (hb : ∀ n ∈ ns, 0 ≤ n ∧ n ≤ 1000000) (hn2 : ns.length ≤ 100000)
    (h : ∀ h' tk t', (∀ b o, s.heap.get? b = some o → h'.get? b = some o) → Q (.int ns.sum t') { s with heap := h', toks := tk }) : wpAny (model prog w) A (call (.builtin "sum") [.ref l]) Q E s := by
  obtain ⟨xs, e⟩ := hi.allInts.items
  have hn : numsOf (intItems xs).toList = ns := by rw [← e]; exact hi.numsOf
  rw [nums_intItems] at hn
  rw [e] at hl
  refine sum_intTup hh hl (fun j hj => ⟨?_, ?_⟩) fun h' tk t' hk => ?_
  · rw [numAt_eq, hn]
    have : ns.getD j 0 ∈ ns := PySem.getD_mem (by rw [← hn, List.length_map, Array.length_toList]; exact hj)
    have := hb _ this
    constructor <;> omega
  · rw [preSum_eq, hn]
    have h1 := sum_bnd (ns := ns.take (j + 1)) fun n hn => hb n (List.mem_of_mem_take hn)
    rw [List.length_take] at h1
    constructor <;> omega
  · have := h h' tk t' hk
    rw [preSum_eq, List.take_of_length_le (by simp), hn]; exact this
end
def rSumT (K : PySem.W.Frag) : List V → Hp → VK → Prop := fun vs H Q => ∃ (a : Addr) (ns : List Int), vs = [V.ref a] ∧ SqT K H a (ns.map V.int) ∧ (∀ n ∈ ns, 0 ≤ n ∧ n ≤ 1000000) ∧ ns.length ≤ 100000 ∧ Q (.int ns.sum) H
theorem cr_sumT {X : Cx} {K : PySem.W.Frag} (hK : X.K = K) (hc : X.calm = true) : CallR X (.builtin "sum") (rSumT K) := by
  subst hK
  intro pins s σ H vs us Q I r h
  obtain ⟨a, ns, rfl, hs, hb, hn, q⟩ := h
  obtain ⟨its, rv, hl, _⟩ := I.tuple hs
  rw [Vals.ref1 r]
  exact sum_rawT (I.ok.hd hc) hl rv.ints hb hn fun h' tk t' hk => ⟨.int _, H, I.kept hk, ⟨_, rfl⟩, q⟩
/-! #### dicts whose keys are numbers -/
def rNotInI : R2 := fun x y H Q => ∃ a i kvs, x = .int i ∧ y = .ref a ∧ H a = some (.dK kvs) ∧ Q (.bl (!(valV kvs (Sum.inl i)).isSome)) H
theorem op_notInI {X : Cx} (hu : X.A.units + 64 < cLine) : OpR X (compareOp .NotIn) rNotInI := by
  intro pins s σ H x y v u Q I rx ry h
  obtain ⟨a, i, kvs, rfl, rfl, e, q⟩ := h
  cases ry
  exact d_notIn (by omega) I (DGet.k (k := Sum.inl i) e) rx fun s' I' => ⟨.bl _, H, I', rfl, q⟩
section
variable {K : PySem.W.Frag} {H : Hp} {Q : VK} {a : Addr} {kvs kvs' : List (Key × V)} {i : Int} {v : V}
theorem g_notInI (h : H a = some (.dK kvs)) (q : Q (.bl (!(valV kvs (Sum.inl i)).isSome)) H) : rNotInI (.int i) (.ref a) H Q := ⟨a, i, kvs, rfl, rfl, h, q⟩
theorem g_dgI (h : H a = some (.dK kvs)) (e : valV kvs (Sum.inl i) = some v) (q : Q v H) : dgR (.ref a) (.int i) H Q := ⟨a, v, rfl, .inl ⟨kvs, Sum.inl i, .inl h, rfl, e.symm⟩, q⟩
theorem g_dpI {M : Hp → Prop} (h : H a = some (.dK kvs)) (hl : kvs.length < sizeLine) (q : ∀ H', H' a = some (.dK (putK kvs (Sum.inl i) v)) → Off [a] H H' → M H') : dpR v (.ref a) (.int i) H M :=
  ⟨a, _, rfl, DPut.k (k := Sum.inl i) h hl, q _ upd_same (.put (by simp) h trivial)⟩
end
/-! #### stars -/
theorem g_starT {K : PySem.W.Frag} {H : Hp} {te : TE} {t : TA} {σ : L2.St} {p : Addr} {xs : List V} {QA : List V → Hp → Prop} (h : SqT K H p xs) (q : t σ H fun ys H2 => QA (xs ++ ys) H2) : ∃ p' xs', V.ref p = V.ref p' ∧ (SqT K H p' xs' ∨ SqL K H p' xs') ∧ t σ H fun ys H2 => QA (xs' ++ ys) H2 := ⟨p, xs, rfl, .inl h, q⟩
theorem g_starL {K : PySem.W.Frag} {H : Hp} {te : TE} {t : TA} {σ : L2.St} {p : Addr} {xs : List V} {QA : List V → Hp → Prop} (h : SqL K H p xs) (q : t σ H fun ys H2 => QA (xs ++ ys) H2) : ∃ p' xs', V.ref p = V.ref p' ∧ (SqT K H p' xs' ∨ SqL K H p' xs') ∧ t σ H fun ys H2 => QA (xs' ++ ys) H2 := ⟨p, xs, rfl, .inr h, q⟩
/-! #### zips of tuples in a comprehension -/
theorem pi_zipAK {X : Cx} {K : PySem.W.Frag} {e e2 : Expr} {ta : TA} {p pos tpos : Pos} {elts : List Expr} {kk : Nat} (hK : X.K = K) (hg : Gl X "zip") (hm : X.mg "zip" = none) (ha : PA X [e, e2] ta)
    (hs : starEach [e, e2] X.env = (false, eval e X.env) :: starEach [e2] X.env := by rfl) (hpl : (backTo pos (starEach [e2] X.env)).any (·.1) = false := by rfl) :
    PI X (.Tuple elts kk tpos) (.Call (.Name "zip" p) [e, e2] [] pos) (RZ.iZipA K ta) := by subst hK; exact RZ.pi_zipA hg hm ha hs hpl
def lcZ (K : PySem.W.Frag) (gt : TG) (tt : TT) (te : TE) (ws : List Nat) (σ : L2.St) (Q : VK) (vs : List V) (H1 : Hp) : Prop :=
  ∃ a b xs ys, vs = [.ref a, .ref b] ∧ ((SqL K H1 a xs ∧ SqL K H1 b ys ∧ lcJ gt tt te ws σ Q (Itz K a b) H1) ∨ (SqT K H1 a xs ∧ SqT K H1 b ys ∧ lcJ gt tt te ws σ Q (RZ.ItzT K a b) H1))
section
variable {K : PySem.W.Frag} {σ : L2.St} {H : Hp} {Q : VK} {a b : Addr} {xs ys : List V} {tA : TA} {gt : TG} {tt : TT} {te : TE} {ws : List Nat}
theorem g_lcZ (q : tA σ H (lcZ K gt tt te ws σ Q)) : tLc (RZ.iZipA K tA) gt tt te ws σ H Q := q
theorem lcZ_mk {m : Nat} (hm : m = min xs.length ys.length) (ha : SqT K H a xs) (hb : SqT K H b ys) (Pv : Addr → Nat → Hp → Prop) (h0 : ∀ D, H D = none → Pv D 0 (upd H D (.lst [])))
    (hl : ∀ D i H1, H D = none → i ≤ m → Pv D i H1 → SqT K H1 a xs ∧ SqT K H1 b ys)
    (hs : ∀ D i x y T H1, H D = none → xs[i]? = some x → ys[i]? = some y → Pv D i H1 → H1 T = none → gt (.ref T) (wipe σ ws) (upd H1 T (.tup [x, y])) fun σ2 H2 => wipe σ2 ws = wipe σ ws ∧ tt σ2 H2 fun b H3 => br b (te σ2 H3 fun y H4 => lcApp D y H4 (Pv D (i + 1))) (Pv D (i + 1) H3))
    (hd : ∀ D H1, H D = none → Pv D m H1 → Q (.ref D) H1) : lcZ K gt tt te ws σ Q [.ref a, .ref b] H := by
  refine ⟨a, b, xs, ys, rfl, .inr ⟨ha, hb, fun D hD => ⟨fun i k H1 => k = m - i ∧ i ≤ m ∧ Pv D i H1, ⟨m, by simp, Nat.zero_le _, h0 D hD⟩, ?_⟩⟩⟩
  rintro i k H1 ⟨rfl, hi, p⟩
  obtain ⟨q1, q2⟩ := hl D i H1 hD hi p
  by_cases hlt : i < m
  · refine .inr ⟨⟨xs, ys, xs[i]'(by omega), ys[i]'(by omega), q1, q2, List.getElem?_eq_getElem _, List.getElem?_eq_getElem _⟩, Pv D (i + 1), fun H' p' => ⟨m - (i + 1), by omega, rfl, hlt, p'⟩, fun v H' y => ?_⟩
    obtain ⟨T, x, y, rfl, hT, rfl, e1, e2⟩ := y
    exact hs D i x y T H1 hD (e1 xs q1) (e2 ys q2) p hT
  · have e : i = m := by omega
    subst e
    exact .inl ⟨⟨xs, ys, q1, q2, by omega⟩, hd D H1 hD p⟩
/-- [f x for x in t]: what comes of a tuple, item by item; nothing else changes -/
theorem lcT_map {β : Type} {ms : List β} {F : V → β → Prop} {j : Nat} (f : β → V) (hx : SqT K H a xs) (hp : Paired F xs ms) (hz : ms.length < sizeLine) (hw : ∀ x, wipe ((wipe σ ws).set j (some x)) ws = wipe σ ws)
    (he : ∀ x m H1, F x m → Off [] H H1 → ∀ M : V → Hp → Prop, (∀ H2, Off [] H1 H2 → M (f m) H2) → te ((wipe σ ws).set j (some x)) H1 M)
    (q : ∀ D H1, H D = none → Off [] H H1 → H1 D = some (.lst (ms.map f)) → Q (.ref D) H1) : lcT K (.ref a) H (gName j) tYes te ws σ Q := by
  have hl := Paired.length hp
  refine lcT_mk (fun D i H1 => Off [] H H1 ∧ H1 D = some (.lst ((ms.take i).map f))) hx (fun D hD => ⟨.new hD, by rw [upd_same]; rfl⟩) (fun D i H1 hD hi p => p.1.seqT hx) (fun D i x H1 hD hi p => ?_) (fun D H1 hD p => q D H1 hD p.1 (by rw [p.2, hl, List.take_length]))
  obtain ⟨p1, p2⟩ := p
  obtain ⟨m, hm, hf⟩ := paired_get' hp hi
  have hi2 := (List.getElem?_eq_some_iff.mp hm).1
  refine ⟨hw x, br_t (he x m H1 hf p1 _ fun H2 o2 => ?_)⟩
  refine g_app (o2.at nin_nil p2) (by rw [List.length_map, List.length_take]; omega) ⟨(p1.trans o2).mut hD, ?_⟩
  rw [upd_same, List.take_add_one, hm, List.map_append]
  rfl
/-- [f i for i in range(n)] -/
theorem lcR_map {n : Int} {j : Nat} (f : Nat → V) (b : -(2 ^ 62) ≤ n ∧ n < 2 ^ 62) (hz : n.toNat < sizeLine) (hw : ∀ x, wipe ((wipe σ ws).set j (some x)) ws = wipe σ ws)
    (he : ∀ (i : Nat) H1, i < n.toNat → Off [] H H1 → ∀ M : V → Hp → Prop, (∀ H2, Off [] H1 H2 → M (f i) H2) → te ((wipe σ ws).set j (some (.int (i : Int)))) H1 M)
    (q : ∀ D H1, H D = none → Off [] H H1 → H1 D = some (.lst ((List.range n.toNat).map f)) → Q (.ref D) H1) : lcR [.int n] H (gName j) tYes te ws σ Q := by
  refine lcR_mk b (fun D i H1 => Off [] H H1 ∧ H1 D = some (.lst ((List.range i).map f))) (fun D hD => ⟨.new hD, by rw [upd_same]; rfl⟩) (fun D i H1 hD hi p => ?_) (fun D H1 hD p => q D H1 hD p.1 p.2)
  obtain ⟨p1, p2⟩ := p
  refine ⟨hw _, br_t (he i H1 hi p1 _ fun H2 o2 => ?_)⟩
  refine g_app (o2.at nin_nil p2) (by rw [List.length_map, List.length_range]; omega) ⟨(p1.trans o2).mut hD, ?_⟩
  rw [upd_same, List.range_succ, List.map_append]
  rfl
end
theorem paired_get'' {α β : Type} {F : α → β → Prop} : ∀ {l : List α} {m : List β} {i : Nat} {y : β}, Paired F l m → m[i]? = some y → ∃ x, l[i]? = some x ∧ F x y
  | _, _, _, _, .nil, e => by simp at e
  | _, _, 0, _, .cons r t, e => by simp at e; subst e; exact ⟨_, rfl, r⟩
  | _, _, i + 1, x, .cons _ t, e => paired_get'' (i := i) t (by simpa using e)
/-! #### a dict that is written out -/
section
variable {σ : L2.St} {H : Hp} {Q : VK} {trs : List (TE × TE)} {tk tv : TE} {QP : List (V × V) → Hp → Prop}
def disp2 (p : Addr) (Q : VK) (ps : List (V × V)) (H2 : Hp) : Prop := H2 p = some (.dK []) ∧ ∃ kvs : List (Key × V), ps = kvs.map (fun kv => (kV kv.1, kv.2)) ∧ kvs.length ≤ 15 ∧ Q (.ref p) (upd H2 p (.dK (mergeK [] kvs)))
theorem g_disp (q : ∀ p, H p = none → tPairs trs σ (upd H p (.dK [])) (disp2 p Q)) : tDisp trs σ H Q := q
theorem g_pnil (q : QP [] H) : tPairs [] σ H QP := q
theorem g_pcons (q : tk σ H fun x H1 => tv σ H1 fun y H2 => tPairs trs σ H2 fun ps H3 => QP ((x, y) :: ps) H3) : tPairs ((tk, tv) :: trs) σ H QP := q
theorem g_disp2 {p : Addr} {ps : List (V × V)} (kvs : List (Key × V)) (h : H p = some (.dK [])) (e : ps = kvs.map (fun kv => (kV kv.1, kv.2))) (hl : kvs.length ≤ 15) (em : mergeK [] kvs = kvs) (q : ∀ H', H' p = some (.dK kvs) → Off [p] H H' → Q (.ref p) H') : disp2 p Q ps H :=
  ⟨h, kvs, e, hl, q _ (by rw [em]; exact upd_same) (.put (by simp) h trivial)⟩
end
end SH
end

section
/-! #### the walk's words -/
local macro_rules | `(tactic| walk_at "ne0") => `(tactic| first
  | assumption
  | (refine Ne.symm ?_; assumption))
local macro_rules | `(tactic| walk_at "ne") => `(tactic| first
  | assumption
  | (refine Ne.symm ?_; assumption)
  | (refine' L2.ne_of_none ?gx (by assumption); (case gx => walk_at "hp"))
  | (refine' Ne.symm (L2.ne_of_none ?gx (by assumption)); (case gx => walk_at "hp")))
local macro_rules | `(tactic| walk_at "hp") => `(tactic| first
  | assumption
  | exact L2.upd_same
  | (refine' SH.upd_new ?gh (by assumption); (case gh => walk_at "hp"))
  | (refine' (L2.upd_ne ?gn).trans ?gh; (case gn => walk_at "ne0"); (case gh => walk_at "hp"))
  | (refine' SH.Off.at (by assumption) ?gn ?gh; (case gn => walk_at "nin"); (case gh => walk_at "hp")))
local macro_rules | `(tactic| walk_at "nin") => `(tactic| first
  | exact SH.nin_nil
  | (refine SH.nin_cons ?_ ?_; (· walk_at "ne0"); (· walk_at "nin")))
local macro_rules | `(tactic| walk_at "sq") => `(tactic| first
  | assumption
  | (apply L2.SqL.of; (· walk_at "hp"))
  | (apply L2.SqT.of; (· walk_at "hp"))
  | (refine' SH.seqT_new ?gx (by assumption); (case gx => walk_at "sq"))
  | (refine' SH.seqL_new ?gx (by assumption); (case gx => walk_at "sq"))
  | (refine' SH.Off.seqT (by assumption) ?gx; (case gx => walk_at "sq"))
  | (refine' SH.Off.seqL (by assumption) ?gy ?gx; (case gx => walk_at "sq"); (case gy => walk_at "nin")))
local macro_rules | `(tactic| walk_at "kd") => `(tactic| first
  | assumption | exact SH.KdV.int _ | exact SH.KdV.bl _ | exact SH.KdV.str _ | exact SH.KdV.non
  | (apply SH.KdV.tup; (· walk_at "sq")) | (apply SH.KdV.lst; (· walk_at "sq")))
/-- a way that cannot be -/
local macro_rules | `(tactic| walk_at "no") => `(tactic| (exfalso; first | assumption | omega | contradiction | (simp_all; done)))
/-- one step -/
local macro_rules | `(tactic| walk_at "g1") => `(tactic| with_reducible first
  | refine SH.g_var (by with_unfolding_all rfl) ?_ | refine SH.g_c ?_ | refine SH.g_op ?_ | refine SH.g_un ?_ | refine SH.g_I0 ?_ | refine SH.g_U ?_
  | refine SH.g_eqI ?_ | refine SH.g_neI ?_ | refine SH.g_eqS ?_ | refine SH.g_neS ?_
  | refine SH.g_test ?_ | refine SH.g_B ?_ | refine SH.g_isB ?_ | refine SH.g_and ?_ | refine SH.g_or ?_ | refine SH.g_not ?_ | refine SH.g_andV ?_ | refine SH.g_orV ?_ | refine SH.g_notV ?_ | refine SH.g_ifE ?_ | refine SH.g_chain ?_
  | refine SH.g_nil ?_ | refine SH.g_cons ?_ | refine SH.g_tup ?_ | refine SH.g_lst ?_ | refine SH.g_call ?_ | refine SH.g_fld ?_ | refine SH.g_meth ?_ | refine SH.g_make ?_ | refine SH.g_cb ?_ | refine SH.g_bm ?_
  | refine SH.g_seq ?_ | refine SH.g_asg ?_ | refine SH.g_name ?_ | refine SH.g_drop ?_ | refine SH.g_ret ?_ | refine SH.g_retN ?_ | refine SH.g_next ?_ | refine SH.g_brk ?_ | refine SH.g_cnt ?_ | refine SH.g_ifs ?_ | refine SH.g_par ?_ | refine SH.g_par2 ?_ | refine SH.g_fldS ?_ | refine SH.g_raise ?_ | refine SH.g_rs ?_
  | refine SH.g_sub ?_ | refine SH.g_yes ?_ | refine SH.g_sl ?_ | refine SH.g_noPart ?_ | refine SH.g_part ?_ | refine SH.g_intO ?_ | refine SH.g_dget ?_ | refine SH.g_dput ?_ | refine SH.g_forR ?_ | refine SH.g_forL ?_ | refine SH.g_forT ?_ | refine SH.g_lcR ?_ | refine SH.g_lcL ?_ | refine SH.g_lcT ?_ | refine SH.g_gcons ?_ | refine SH.g_gnil ?_
  | refine SH.br_t ?_ | refine SH.br_f ?_
  | refine SH.g_int ?_ | refine SH.g_abs ?_ | refine SH.g_max2 ?_ | refine SH.g_min2 ?_)
local macro_rules | `(tactic| walk_at "g2") => `(tactic| first
  | walk_at "g1"
  | ((with_reducible refine' SH.g_isiInt ?ga ?gz); (case ga => walk_at "kd"))
  | ((with_reducible refine' SH.g_isiBool ?ga ?gz); (case ga => walk_at "kd"))
  | ((with_reducible refine' SH.g_isiStr ?ga ?gz); (case ga => walk_at "kd"))
  | ((with_reducible refine' SH.g_isiTup ?ga ?gz); (case ga => walk_at "kd"))
  | ((with_reducible refine' SH.g_ixT ?ga ?gb ?gz); (case ga => walk_at "sq"); (case gb => rfl))
  | ((with_reducible refine' SH.g_ixL ?ga ?gb ?gz); (case ga => walk_at "sq"); (case gb => first | rfl | (apply SH.atI_refs; assumption)))
  | ((with_reducible refine SH.br_F ?_ ?_); (· decide +kernel)) | ((with_reducible refine SH.br_T ?_ ?_); (· decide +kernel)) | ((with_reducible refine SH.br_NF ?_ ?_); (· decide +kernel)) | ((with_reducible refine SH.br_NT ?_ ?_); (· decide +kernel))
  | ((with_reducible refine' SH.g_gtup ?ga ?gb ?gz); (case ga => walk_at "sq"); (case gb => rfl))
  | ((with_reducible refine' SH.g_lenT ?ga ?gz); (case ga => walk_at "sq"))
  | ((with_reducible refine' SH.g_lenL ?ga ?gz); (case ga => walk_at "sq"))
  | ((with_reducible refine SH.g_mkT (SH.sz rfl) ?_); intro _ _)
  | ((with_reducible refine SH.g_mkL (SH.sz rfl) ?_); intro _ _)
  | ((with_reducible refine SH.g_dnew ?_); intro _ _)
  | ((with_reducible refine' SH.g_tupL ?ga ?gz); (case ga => walk_at "sq"); intro _ _)
  | ((with_reducible refine' SH.g_lstL ?ga ?gz); (case ga => walk_at "sq"); intro _ _)
  | ((with_reducible refine' SH.g_lstT ?ga ?gz); (case ga => walk_at "sq"); intro _ _)
  | ((with_reducible refine' SH.g_dgR ?ga ?gb ?gz); (case ga => walk_at "hp"); (case gb => walk_at "dv"))
  | ((with_reducible refine' SH.g_fldR ?ga ?gb ?gc ?gd ?gz); (case ga => walk_at "hp"); (case gb => walk_at "cl"); (case gc => walk_at "na"); (case gd => walk_at "fv"))
  | ((with_reducible refine' SH.g_insR ?ga ?gb ?gz); (case ga => walk_at "hp"); (case gb => walk_at "fn"))
  | ((with_reducible refine' SH.g_setL ?ga ?gb ?gz); (case ga => walk_at "hp"); (case gb => rfl))
  | ((with_reducible refine SH.g_I ?_ ?_); (· walk_at "ci"))
  | ((with_reducible refine' SH.g_slL ?ga ?gz); (case ga => walk_at "sq"); intro _ _)
  | ((with_reducible refine' SH.g_cat ?ga ?gb ?gc ?gz); (case ga => walk_at "hp"); (case gb => walk_at "hp"); (case gc => walk_at "ls"); intro _ _))
/-- the side conditions of numbers: a divisor, a factor -/
local macro_rules | `(tactic| walk_at "ci") => `(tactic| first
  | (show _ ≠ _; omega) | (show _ < _; omega) | (constructor <;> omega) | (refine Or.inr ⟨?_, ?_⟩ <;> (show _ < _; omega)) | (refine Or.inl ⟨?_, ?_⟩ <;> (show _ < _; omega)) | (refine ⟨?_, ?_, ?_⟩ <;> decide))
local macro_rules | `(tactic| walk_at "ls") => `(tactic| first | (show _ ≤ _; exact Nat.le_trans (by assumption) (by decide)) | (show _ ≤ _; exact Nat.le_trans (by simp; omega) (by decide : 1000 ≤ sizeLine)))
local macro_rules | `(tactic| walk_at "dv") => `(tactic| rfl)
local macro_rules | `(tactic| walk_at "fv") => `(tactic| rfl)
local macro_rules | `(tactic| walk_at "fn") => `(tactic| rfl)
local macro_rules | `(tactic| walk_at "cl") => `(tactic| assumption)
local macro_rules | `(tactic| walk_at "na") => `(tactic| assumption)
local macro_rules | `(tactic| walk_at "go") => `(tactic| repeat walk_at "g2")
/-- a way is split -/
local macro_rules | `(tactic| walk_at "br") => `(tactic| with_reducible first
  | refine SH.br_d (fun _ => ?_) (fun _ => ?_) | refine SH.br_nd (fun _ => ?_) (fun _ => ?_) | refine SH.br_b (fun _ => ?_) (fun _ => ?_))
/-- all ways -/
local macro_rules | `(tactic| walk_at "all") => `(tactic| repeat' first | walk_at "g2" | (walk_at "br" <;> try (walk_at "no")))
/-- a truth value is the other -/
local macro_rules | `(tactic| walk_at "bq") => `(tactic| first | rfl | (simp_all; done) | (simp_all; omega) | (simp only [decide_eq_true_eq, decide_eq_false_iff_not, Bool.and_eq_true, Bool.or_eq_true] at *; omega))
/-- what was tracked is as it was -/
local macro_rules | `(tactic| walk_at "of") => `(tactic| first
  | assumption
  | exact SH.Off.refl _ _
  | (refine' SH.Off.new2 ?gx (by assumption); (case gx => walk_at "of"))
  | (refine' SH.Off.mut ?gx (by assumption); (case gx => walk_at "of"))
  | (refine' SH.Off.trans' ?gx (by assumption) ?gy; (case gy => (intro _ h; (first | exact h | (simp at h; done) | (simp at h ⊢; simp [h]; done)))); (case gx => walk_at "of")))
/-- kinds; parts of tuples; stars -/
local macro_rules | `(tactic| walk_at "g2") => `(tactic| first
  | (with_reducible first | refine SH.br_ntt ?_ | refine SH.br_ntf ?_ | refine SH.br_k ?_ | refine SH.br_nk ?_ | refine SH.g_star ?_ | refine SH.g_forR2 ?_ | refine SH.g_lcZ ?_ | refine SH.g_enL ?_)
  | ((with_reducible refine' SH.g_slA ?ga ?gz); (case ga => walk_at "sq"); intro _ _ _ _)
  | ((with_reducible refine' SH.g_app' ?ga ?gb ?gz); (case ga => walk_at "hp"); (case gb => walk_at "lt"); intro _ _ _)
  | ((with_reducible refine' SH.g_bml ?ga ?gz); (case ga => walk_at "sq"))
  | ((with_reducible refine' SH.g_popF ?ga ?gz); (case ga => walk_at "hp"); intro _ _ _)
  | (with_reducible first | refine SH.g_pnil ?_ | refine SH.g_pcons ?_ | (refine SH.g_disp ?_; intro _ _))
  | ((with_reducible refine' SH.g_kw ?gz))
  | ((with_reducible refine SH.g_kwR rfl ?_)))
local macro_rules | `(tactic| walk_at "lt") => `(tactic| (rw [PySem.sizeLine_eq]; omega))
namespace SH
open PySem PySem.Spec PyProof.Rows L2
def dat2 : V → PyData
  | .str z => .str z
  | .int i => .int i
  | .bl b => .bool b
  | _ => .none
def flB : V → Bool
  | .str z => PyData.canLay0 (.str z)
  | .int _ => true
  | .bl _ => true
  | .non => true
  | _ => false
def kdF : V → Kd
  | .str _ => .str
  | .int _ => .int
  | .bl _ => .bl
  | _ => .non
theorem KdV.flat {K : PySem.W.Frag} {H : Hp} {v : V} (h : flB v = true) : KdV K H v (kdF v) := by
  cases v with
  | str z => exact .str z
  | int i => exact .int i
  | bl b => exact .bl b
  | non => exact .non
  | _ => cases h
theorem fl_dpAll {K : PySem.W.Frag} {H : Hp} : ∀ {xs : List V}, xs.all flB = true → DpAll K H xs (xs.map dat2)
  | [], _ => .nil
  | x :: xs, h => by
    rw [List.all_cons, Bool.and_eq_true] at h
    cases x with
    | str z => exact .cons (.str z) (fl_dpAll h.2)
    | int i => exact .cons (.int i) (fl_dpAll h.2)
    | bl i => exact .cons (.bl i) (fl_dpAll h.2)
    | non => exact .cons .non (fl_dpAll h.2)
    | _ => cases h.1
theorem fl_lay : ∀ {xs : List V}, xs.all flB = true → PyData.canLayAll0 (xs.map dat2) = true
  | [], _ => rfl
  | x :: xs, h => by
    rw [List.all_cons, Bool.and_eq_true] at h
    show (PyData.canLay0 (dat2 x) && PyData.canLayAll0 (xs.map dat2)) = true
    rw [fl_lay h.2]
    cases x with
    | str z => rw [Bool.and_true]; exact h.1
    | int i => rfl
    | bl i => rfl
    | non => rfl
    | _ => cases h.1
theorem fl_depth : ∀ {xs : List V}, xs.all flB = true → PyData.depthAll (xs.map dat2) = 0
  | [], _ => rfl
  | x :: xs, h => by
    rw [List.all_cons, Bool.and_eq_true] at h
    show max (PyData.depth (dat2 x)) (PyData.depthAll (xs.map dat2)) = 0
    rw [fl_depth h.2]
    cases x <;> first | rfl | cases h.1
theorem fl_shaped {xs : List V} (h : xs.all flB = true) : SeqAt.shaped (.tuple (xs.map dat2)) = true := by
  unfold SeqAt.shaped
  rw [Bool.and_eq_true, decide_eq_true_eq]
  refine ⟨fl_lay h, ?_⟩
  show PyData.depthAll (xs.map dat2) + 1 ≤ 64
  rw [fl_depth h]
  omega
def spDiv : Sp := fun vs H Q _ => ∃ a b : Nat, vs = [.int (a : Int), .int (b : Int)] ∧ Q (.int ((Nat.gcd a b : Nat) : Int)) H
def spTupOf (K : PySem.W.Frag) : Sp := fun vs H Q _ => ∃ v n b, vs = [v, .int n] ∧ ((∃ p xs, v = .ref p ∧ SqT K H p xs ∧ b = decide ((xs.length : Int) = n)) ∨ ∃ k, KdV K H v k ∧ k ≠ .tup ∧ b = false) ∧ Q (.bl b) H
section
variable {P : Program} {w : World} {K : PySem.W.Frag} {mg : Str → Option Value} {base : Heap}
theorem ok_divisor (T : Txt P w K mg) : DefOk P w K mg base "divisor" 1 ["one", "other"] spDiv := by
  refine T.d_divisor.ok sc_divisor (fun _ _ _ _ _ _ us hl => match us, hl with | [_, _], _ => rfl) (fun vs H Q E h => ?_) (fun f cdv A outer s H vs Q E hr h => ?_)
  · obtain ⟨a, b, rfl, _⟩ := h
    rfl
  · obtain ⟨a, b, rfl, q⟩ := h
    have B := T.blt
    have hu := hu_of hr
    refine ⟨_, (pss_cons (ps_while (passes_of rfl) (pt_cmpR op_gt (pv 1) pe_int (nomark _))
    (pss_one (ps_par (i := 0) (j := 1) (by rfl) sc_divisor.nd rfl rfl (by decide) rfl rfl (pa_cons (pv 1) (pa_cons (pe_op op_modN (pv 0) (pv 1)) pa_nil)) (by rfl))))
  (pss_one (ps_ret (pv 0)))), ?_⟩
    walk_at "go"
    refine g_while (fun m σ H' => ∃ x y : Nat, σ = [some (.int (x : Int)), some (.int (y : Int))] ∧ H' = H ∧ Nat.gcd x y = Nat.gcd a b ∧ m = y) b ⟨a, b, rfl, rfl, rfl, rfl⟩ (fun m σ H' hW => ?_)
    obtain ⟨x, _, rfl, rfl, hg, rfl⟩ := hW
    walk_at "go"
    refine br_d (fun c => ?_) (fun c => ?_)
    · refine g_whN ?_
      walk_at "go"
      have e := Int.fmod_eq_emod_of_nonneg (x : Int) (show (0 : Int) ≤ (m : Int) by omega)
      refine ⟨_, _, rfl, x % m, Nat.mod_lt _ (by omega), m, x % m, ?_, rfl, ?_, rfl⟩
      · rw [e, ← Int.natCast_emod]
        rfl
      · rw [← hg, Nat.gcd_comm x m, Nat.gcd_rec m x, Nat.gcd_comm]
    · have : m = 0 := by omega
      subst this
      walk_at "go"
      rw [Nat.gcd_zero_right] at hg
      rw [hg]
      exact q
theorem ok_is_tuple_of (T : Txt P w K mg) : DefOk P w K mg base "is_tuple_of" 1 ["value", "many"] (spTupOf K) := by
  refine T.d_is_tuple_of.ok sc_is_tuple_of (fun _ _ _ _ _ _ us hl => match us, hl with | [_, _], _ => rfl) (fun vs H Q E h => ?_) (fun f cdv A outer s H vs Q E hr h => ?_)
  · obtain ⟨v, n, b, rfl, _⟩ := h
    rfl
  · obtain ⟨v, n, b, rfl, hb, q⟩ := h
    have B := T.blt
    have hu := hu_of hr
    refine ⟨_, (pss_one (ps_ret (pe_and (pe_callB (call_isiK' (K := K) rfl) (by rfl) B.b_isinstance (by decide +kernel) (pa_cons (pv 0) (pa_cons (pe_bltn (v := .ty "tuple") rfl B.b_tuple (by decide +kernel) rfl) pa_nil))) (pe_one (pe_cmpR op_eq (pe_callB (c_lenK (K := K) rfl) (by rfl) B.b_len PySem.boot_len (pa_cons (pv 0) pa_nil)) (pv 1) (nomark _)))))), ?_⟩
    rcases hb with ⟨p, xs, rfl, hp, rfl⟩ | ⟨k, hk, nk, rfl⟩
    · have hk : KdV K H (.ref p) .tup := .tup hp
      walk_at "go"
      exact q
    · have ek : (k == Kd.tup) = false := by cases k <;> first | rfl | exact absurd rfl nk
      walk_at "go"
      rw [ek]
      walk_at "go"
      exact q
end
end SH
end

section
/-! #### the walk's words -/
local macro_rules | `(tactic| walk_at "ne0") => `(tactic| first
  | assumption
  | (refine Ne.symm ?_; assumption))
local macro_rules | `(tactic| walk_at "ne") => `(tactic| first
  | assumption
  | (refine Ne.symm ?_; assumption)
  | (refine' L2.ne_of_none ?gx (by assumption); (case gx => walk_at "hp"))
  | (refine' Ne.symm (L2.ne_of_none ?gx (by assumption)); (case gx => walk_at "hp")))
local macro_rules | `(tactic| walk_at "hp") => `(tactic| first
  | assumption
  | exact L2.upd_same
  | (refine' SH.upd_new ?gh (by assumption); (case gh => walk_at "hp"))
  | (refine' (L2.upd_ne ?gn).trans ?gh; (case gn => walk_at "ne0"); (case gh => walk_at "hp"))
  | (refine' SH.Off.at (by assumption) ?gn ?gh; (case gn => walk_at "nin"); (case gh => walk_at "hp")))
local macro_rules | `(tactic| walk_at "nin") => `(tactic| first
  | exact SH.nin_nil
  | (refine SH.nin_cons ?_ ?_; (· walk_at "ne0"); (· walk_at "nin")))
local macro_rules | `(tactic| walk_at "sq") => `(tactic| first
  | assumption
  | (apply L2.SqL.of; (· walk_at "hp"))
  | (apply L2.SqT.of; (· walk_at "hp"))
  | (refine' SH.seqT_new ?gx (by assumption); (case gx => walk_at "sq"))
  | (refine' SH.seqL_new ?gx (by assumption); (case gx => walk_at "sq"))
  | (refine' SH.Off.seqT (by assumption) ?gx; (case gx => walk_at "sq"))
  | (refine' SH.Off.seqL (by assumption) ?gy ?gx; (case gx => walk_at "sq"); (case gy => walk_at "nin")))
local macro_rules | `(tactic| walk_at "kd") => `(tactic| first
  | assumption | exact SH.KdV.int _ | exact SH.KdV.bl _ | exact SH.KdV.str _ | exact SH.KdV.non
  | (apply SH.KdV.tup; (· walk_at "sq")) | (apply SH.KdV.lst; (· walk_at "sq")))
/-- a way that cannot be -/
local macro_rules | `(tactic| walk_at "no") => `(tactic| (exfalso; first | assumption | omega | contradiction | (simp_all; done)))
/-- one step -/
local macro_rules | `(tactic| walk_at "g1") => `(tactic| with_reducible first
  | refine SH.g_var (by with_unfolding_all rfl) ?_ | refine SH.g_c ?_ | refine SH.g_op ?_ | refine SH.g_un ?_ | refine SH.g_I0 ?_ | refine SH.g_U ?_
  | refine SH.g_eqI ?_ | refine SH.g_neI ?_ | refine SH.g_eqS ?_ | refine SH.g_neS ?_
  | refine SH.g_test ?_ | refine SH.g_B ?_ | refine SH.g_isB ?_ | refine SH.g_and ?_ | refine SH.g_or ?_ | refine SH.g_not ?_ | refine SH.g_andV ?_ | refine SH.g_orV ?_ | refine SH.g_notV ?_ | refine SH.g_ifE ?_ | refine SH.g_chain ?_
  | refine SH.g_nil ?_ | refine SH.g_cons ?_ | refine SH.g_tup ?_ | refine SH.g_lst ?_ | refine SH.g_call ?_ | refine SH.g_fld ?_ | refine SH.g_meth ?_ | refine SH.g_make ?_ | refine SH.g_cb ?_ | refine SH.g_bm ?_
  | refine SH.g_seq ?_ | refine SH.g_asg ?_ | refine SH.g_name ?_ | refine SH.g_drop ?_ | refine SH.g_ret ?_ | refine SH.g_retN ?_ | refine SH.g_next ?_ | refine SH.g_brk ?_ | refine SH.g_cnt ?_ | refine SH.g_ifs ?_ | refine SH.g_par ?_ | refine SH.g_par2 ?_ | refine SH.g_fldS ?_ | refine SH.g_raise ?_ | refine SH.g_rs ?_
  | refine SH.g_sub ?_ | refine SH.g_yes ?_ | refine SH.g_sl ?_ | refine SH.g_noPart ?_ | refine SH.g_part ?_ | refine SH.g_intO ?_ | refine SH.g_dget ?_ | refine SH.g_dput ?_ | refine SH.g_forR ?_ | refine SH.g_forL ?_ | refine SH.g_forT ?_ | refine SH.g_lcR ?_ | refine SH.g_lcL ?_ | refine SH.g_lcT ?_ | refine SH.g_gcons ?_ | refine SH.g_gnil ?_
  | refine SH.br_t ?_ | refine SH.br_f ?_
  | refine SH.g_int ?_ | refine SH.g_abs ?_ | refine SH.g_max2 ?_ | refine SH.g_min2 ?_)
local macro_rules | `(tactic| walk_at "g2") => `(tactic| first
  | walk_at "g1"
  | ((with_reducible refine' SH.g_isiInt ?ga ?gz); (case ga => walk_at "kd"))
  | ((with_reducible refine' SH.g_isiBool ?ga ?gz); (case ga => walk_at "kd"))
  | ((with_reducible refine' SH.g_isiStr ?ga ?gz); (case ga => walk_at "kd"))
  | ((with_reducible refine' SH.g_isiTup ?ga ?gz); (case ga => walk_at "kd"))
  | ((with_reducible refine' SH.g_ixT ?ga ?gb ?gz); (case ga => walk_at "sq"); (case gb => rfl))
  | ((with_reducible refine' SH.g_ixL ?ga ?gb ?gz); (case ga => walk_at "sq"); (case gb => first | rfl | (apply SH.atI_refs; assumption)))
  | ((with_reducible refine SH.br_F ?_ ?_); (· decide +kernel)) | ((with_reducible refine SH.br_T ?_ ?_); (· decide +kernel)) | ((with_reducible refine SH.br_NF ?_ ?_); (· decide +kernel)) | ((with_reducible refine SH.br_NT ?_ ?_); (· decide +kernel))
  | ((with_reducible refine' SH.g_gtup ?ga ?gb ?gz); (case ga => walk_at "sq"); (case gb => rfl))
  | ((with_reducible refine' SH.g_lenT ?ga ?gz); (case ga => walk_at "sq"))
  | ((with_reducible refine' SH.g_lenL ?ga ?gz); (case ga => walk_at "sq"))
  | ((with_reducible refine SH.g_mkT (SH.sz rfl) ?_); intro _ _)
  | ((with_reducible refine SH.g_mkL (SH.sz rfl) ?_); intro _ _)
  | ((with_reducible refine SH.g_dnew ?_); intro _ _)
  | ((with_reducible refine' SH.g_tupL ?ga ?gz); (case ga => walk_at "sq"); intro _ _)
  | ((with_reducible refine' SH.g_lstL ?ga ?gz); (case ga => walk_at "sq"); intro _ _)
  | ((with_reducible refine' SH.g_lstT ?ga ?gz); (case ga => walk_at "sq"); intro _ _)
  | ((with_reducible refine' SH.g_dgR ?ga ?gb ?gz); (case ga => walk_at "hp"); (case gb => walk_at "dv"))
  | ((with_reducible refine' SH.g_fldR ?ga ?gb ?gc ?gd ?gz); (case ga => walk_at "hp"); (case gb => walk_at "cl"); (case gc => walk_at "na"); (case gd => walk_at "fv"))
  | ((with_reducible refine' SH.g_insR ?ga ?gb ?gz); (case ga => walk_at "hp"); (case gb => walk_at "fn"))
  | ((with_reducible refine' SH.g_setL ?ga ?gb ?gz); (case ga => walk_at "hp"); (case gb => rfl))
  | ((with_reducible refine SH.g_I ?_ ?_); (· walk_at "ci"))
  | ((with_reducible refine' SH.g_slL ?ga ?gz); (case ga => walk_at "sq"); intro _ _)
  | ((with_reducible refine' SH.g_cat ?ga ?gb ?gc ?gz); (case ga => walk_at "hp"); (case gb => walk_at "hp"); (case gc => walk_at "ls"); intro _ _))
/-- the side conditions of numbers: a divisor, a factor -/
local macro_rules | `(tactic| walk_at "ci") => `(tactic| first
  | (show _ ≠ _; omega) | (show _ < _; omega) | (constructor <;> omega) | (refine Or.inr ⟨?_, ?_⟩ <;> (show _ < _; omega)) | (refine Or.inl ⟨?_, ?_⟩ <;> (show _ < _; omega)) | (refine ⟨?_, ?_, ?_⟩ <;> decide))
local macro_rules | `(tactic| walk_at "ls") => `(tactic| first | (show _ ≤ _; exact Nat.le_trans (by assumption) (by decide)) | (show _ ≤ _; exact Nat.le_trans (by simp; omega) (by decide : 1000 ≤ sizeLine)))
local macro_rules | `(tactic| walk_at "dv") => `(tactic| rfl)
local macro_rules | `(tactic| walk_at "fv") => `(tactic| rfl)
local macro_rules | `(tactic| walk_at "fn") => `(tactic| rfl)
local macro_rules | `(tactic| walk_at "cl") => `(tactic| assumption)
local macro_rules | `(tactic| walk_at "na") => `(tactic| assumption)
local macro_rules | `(tactic| walk_at "go") => `(tactic| repeat walk_at "g2")
/-- a way is split -/
local macro_rules | `(tactic| walk_at "br") => `(tactic| with_reducible first
  | refine SH.br_d (fun _ => ?_) (fun _ => ?_) | refine SH.br_nd (fun _ => ?_) (fun _ => ?_) | refine SH.br_b (fun _ => ?_) (fun _ => ?_))
/-- all ways -/
local macro_rules | `(tactic| walk_at "all") => `(tactic| repeat' first | walk_at "g2" | (walk_at "br" <;> try (walk_at "no")))
/-- a truth value is the other -/
local macro_rules | `(tactic| walk_at "bq") => `(tactic| first | rfl | (simp_all; done) | (simp_all; omega) | (simp only [decide_eq_true_eq, decide_eq_false_iff_not, Bool.and_eq_true, Bool.or_eq_true] at *; omega))
/-- what was tracked is as it was -/
local macro_rules | `(tactic| walk_at "of") => `(tactic| first
  | assumption
  | exact SH.Off.refl _ _
  | (refine' SH.Off.new2 ?gx (by assumption); (case gx => walk_at "of"))
  | (refine' SH.Off.mut ?gx (by assumption); (case gx => walk_at "of"))
  | (refine' SH.Off.trans' ?gx (by assumption) ?gy; (case gy => (intro _ h; (first | exact h | (simp at h; done) | (simp at h ⊢; simp [h]; done)))); (case gx => walk_at "of")))
/-- kinds; parts of tuples; stars -/
local macro_rules | `(tactic| walk_at "g2") => `(tactic| first
  | (with_reducible first | refine SH.br_ntt ?_ | refine SH.br_ntf ?_ | refine SH.br_k ?_ | refine SH.br_nk ?_ | refine SH.g_star ?_ | refine SH.g_forR2 ?_ | refine SH.g_lcZ ?_ | refine SH.g_enL ?_)
  | ((with_reducible refine' SH.g_slA ?ga ?gz); (case ga => walk_at "sq"); intro _ _ _ _)
  | ((with_reducible refine' SH.g_app' ?ga ?gb ?gz); (case ga => walk_at "hp"); (case gb => walk_at "lt"); intro _ _ _)
  | ((with_reducible refine' SH.g_bml ?ga ?gz); (case ga => walk_at "sq"))
  | ((with_reducible refine' SH.g_popF ?ga ?gz); (case ga => walk_at "hp"); intro _ _ _)
  | (with_reducible first | refine SH.g_pnil ?_ | refine SH.g_pcons ?_ | (refine SH.g_disp ?_; intro _ _))
  | ((with_reducible refine' SH.g_kw ?gz))
  | ((with_reducible refine SH.g_kwR rfl ?_)))
local macro_rules | `(tactic| walk_at "lt") => `(tactic| (rw [PySem.sizeLine_eq]; omega))
namespace SH
open PySem PySem.Spec PyProof.Rows L2
/-! ### growths, stocks: what is asked of them -/
def gI (g : List Nat) : List Int := g.map fun (n : Nat) => (n : Int)
def gV (g : List Nat) : List V := (gI g).map V.int
theorem gV_len (g : List Nat) : (gV g).length = g.length := by unfold gV gI; rw [List.length_map, List.length_map]
theorem gV_get {g : List Nat} {l : Nat} (h : l < g.length) : (gV g)[l]? = some (.int ((gAt g l : Nat) : Int)) := by
  unfold gV gI gAt
  rw [List.getElem?_map, List.getElem?_map, List.getElem?_eq_getElem h, List.getD_eq_getElem?_getD, List.getElem?_eq_getElem h]
  rfl
theorem gV_at {g : List Nat} {l : Nat} (h : l < g.length) : atI (gV g) ((l : Nat) : Int) = some (.int ((gAt g l : Nat) : Int)) := by
  unfold atI ixN
  rw [if_pos (by omega), if_pos (by rw [gV_len]; omega)]
  show (gV g)[(l : Int).toNat]? = _
  rw [Int.toNat_natCast]
  exact gV_get h
def leP : List V → Bool
  | .int a :: .int b :: r => decide (a ≤ b) && leP (.int b :: r)
  | _ => true
def growV (xs : List V) : Bool := (decide ((2 : Int) ≤ (xs.length : Int)) && decide ((xs.length : Int) ≤ 31)) && (xs.all (inB 0 ((xs.length : Int) - 1)) && leP xs)
def GroA (K : PySem.W.Frag) (H : Hp) (v : V) (b : Bool) : Prop := (∃ p xs, v = .ref p ∧ SqT K H p xs ∧ xs.all flB = true ∧ b = growV xs) ∨ (∃ k, KdV K H v k ∧ k ≠ .tup ∧ b = false)
theorem inB_t {lo hi : Int} {v : V} (h : inB lo hi v = true) : ∃ i : Int, v = .int i ∧ lo ≤ i ∧ i ≤ hi := by
  cases v with
  | int i =>
    have h' : (decide (lo ≤ i) && decide (i ≤ hi)) = true := h
    rw [Bool.and_eq_true, decide_eq_true_eq, decide_eq_true_eq] at h'
    exact ⟨i, rfl, h'.1, h'.2⟩
  | _ => cases h
theorem leP_mono : ∀ {ns : List Int}, (∀ i x y, ns[i]? = some x → ns[i + 1]? = some y → x ≤ y) → leP (ns.map V.int) = true
  | [], _ => rfl
  | [_], _ => rfl
  | a :: b :: r, h => by
    show (decide (a ≤ b) && leP ((b :: r).map V.int)) = true
    rw [decide_eq_true (h 0 a b rfl rfl), leP_mono (ns := b :: r) fun i x y h1 h2 => h (i + 1) x y h1 h2]
    rfl
theorem GrOk.val {g : List Nat} (G : GrOk g) : growV (gV g) = true := by
  unfold growV
  have n0 := G.n0
  have n1 := G.n1
  rw [gV_len, decide_eq_true (by omega), decide_eq_true (by omega)]
  have h1 : (gV g).all (inB 0 ((g.length : Int) - 1)) = true := by
    rw [List.all_eq_true]
    intro v hv
    obtain ⟨l, hl, rfl⟩ := List.mem_iff_getElem.mp hv
    rw [gV_len] at hl
    have e := gV_get hl
    rw [List.getElem?_eq_getElem (by rw [gV_len]; exact hl)] at e
    rw [Option.some.inj e]
    have := G.lt l hl
    show (decide ((0 : Int) ≤ ((gAt g l : Nat) : Int)) && decide (((gAt g l : Nat) : Int) ≤ (g.length : Int) - 1)) = true
    rw [decide_eq_true (by omega), decide_eq_true (by omega)]
    rfl
  rw [h1, Bool.and_self, Bool.true_and, Bool.true_and]
  refine leP_mono fun i x y h1 h2 => ?_
  unfold gI at h1 h2
  rw [List.getElem?_map] at h1 h2
  obtain ⟨a, ha, rfl⟩ := Option.map_eq_some_iff.mp h1
  obtain ⟨b, hb, rfl⟩ := Option.map_eq_some_iff.mp h2
  have hi := (List.getElem?_eq_some_iff.mp hb).1
  have m := G.mono i (i + 1) (by omega) hi
  unfold gAt at m
  rw [List.getD_eq_getElem?_getD, List.getD_eq_getElem?_getD, ha, hb] at m
  have m' : a ≤ b := m
  omega
theorem cutV_tl {v : V} {vs : List V} : cutV (v :: vs) (some 1) none = vs := by
  unfold cutV
  rw [show HT.sIx (v :: vs).length 0 (some 1) = 1 from by rw [show ((1 : Int)) = ((1 : Nat) : Int) from rfl, HT.sIx_nat, List.length_cons]; omega, HT.sIx_none, List.drop_one, List.tail_cons, List.length_cons, show vs.length + 1 - 1 = vs.length by omega, List.take_length]
def spIsGrow (K : PySem.W.Frag) : Sp := fun vs H Q _ => ∃ v b, vs = [v] ∧ GroA K H v b ∧ ∀ H', Off [] H H' → Q (.bl b) H'
/-- arguments that are as described -/
def StkA (K : PySem.W.Frag) (H : Hp) (v u : V) (p : Addr) (g : List Nat) (s : Nat) : Prop := v = .ref p ∧ u = .int (s : Int) ∧ SqT K H p (gV g) ∧ GrOk g ∧ s < g.length
theorem StkA.off {K : PySem.W.Frag} {S : List Addr} {H H' : Hp} {v u : V} {p : Addr} {g : List Nat} {s : Nat} (h : StkA K H v u p g s) (o : Off S H H') : StkA K H' v u p g s := ⟨h.1, h.2.1, o.seqT h.2.2.1, h.2.2.2⟩
/-- the first argument that is not -/
def BadS (K : PySem.W.Frag) (H : Hp) (v u : V) (nm : Str) : Prop := (nm = "growth" ∧ GroA K H v false) ∨ (nm = "start" ∧ (∃ p g, v = .ref p ∧ SqT K H p (gV g) ∧ GrOk g ∧ flB u = true ∧ inB 0 ((g.length : Int) - 1) u = false))
def spDemS (K : PySem.W.Frag) : Sp := fun vs H Q E => ∃ v u, vs = [v, u] ∧ ((∃ p g s, StkA K H v u p g s ∧ ∀ H', Off [] H H' → Q .non H') ∨ (∃ nm, BadS K H v u nm ∧ ∀ H', Off [] H H' → RaiseW (He.ga K "BadArgument") "name" (.str nm) H' E))
def spTop (K : PySem.W.Frag) : Sp := fun vs H Q _ => ∃ p g s, vs = [.ref p, .int ((s : Nat) : Int)] ∧ SqT K H p (gV g) ∧ GrOk g ∧ s < g.length ∧ Q (.int ((topOf g s : Nat) : Int)) H
/-- a def of a growth and a start that first looks at them -/
def spGS (K : PySem.W.Frag) (ok : Addr → List Nat → Nat → Hp → VK → Prop) : Sp := fun vs H Q E => ∃ v u, vs = [v, u] ∧ ((∃ p g s, StkA K H v u p g s ∧ ok p g s H Q) ∨ (∃ nm, BadS K H v u nm ∧ ∀ H', Off [] H H' → RaiseW (He.ga K "BadArgument") "name" (.str nm) H' E))
section
variable {P : Program} {w : World} {K : PySem.W.Frag} {mg : Str → Option Value} {base : Heap}
theorem ok_is_growth (T : Txt P w K mg) : DefOk P w K mg base "is_growth" 3 ["value"] (spIsGrow K) := by
  refine T.d_is_growth.ok sc_is_growth (fun _ _ _ _ _ _ us hl => match us, hl with | [_], _ => rfl) (fun vs H Q E h => ?_) (fun f cdv A outer s H vs Q E hr h => ?_)
  · obtain ⟨v, b, rfl, _⟩ := h
    rfl
  · obtain ⟨v, b, rfl, hb, q⟩ := h
    have B := T.blt
    have hu := hu_of hr
    have G_are_between := ok_are_between (base := base) T
    have c_LEAST_GROWTH := T.c_LEAST_GROWTH
    have c_MOST_GROWTH := T.c_MOST_GROWTH
    have G_is_in := ok_is_in (base := base) T
    refine ⟨_, (pss_cons (ps_if (PW.pt (pw_or (pt_not (pt_val (pe_df G_are_between (hr.mono (by decide)) (L2N.passes_call (L2N.takes_of rfl rfl rfl rfl) fun _ _ _ _ z => z) (pa_cons (pv 0) (pa_cons (pe_cint c_LEAST_GROWTH) (pa_cons (pe_cint c_MOST_GROWTH) pa_nil)))) (by intro _; rfl))) (pw_or1 (pt_not (pt_val (pe_callB (cr_allK (K := K) rfl rfl) (by rfl) B.b_all (by decide +kernel) (pa_cons (pe_lc (own := [("to", 3)]) rfl sc_is_growth.nd (pi_tupK (K := K) rfl (pv 0)) (blkOk_by (own := [("to", 3)]) (N := ["value", "one", "two", "to"]) (sc := defScope s_is_growth) (by decide +kernel)) (fun _ _ _ _ _ => (pg_name (i := 3) sc_is_growth.nd rfl (by first | exact Or.inl rfl | exact Or.inr rfl))) (fun _ _ _ _ _ => pts_nil) (fun _ _ _ _ _ => (pe_df G_is_in (hr.mono (by decide)) passN (pa_cons (pv 3) (pa_cons pe_int (pa_cons (pe_op op_sub (pe_callB (c_lenK (K := K) rfl) (by rfl) B.b_len PySem.boot_len (pa_cons (pv 0) pa_nil)) pe_int) pa_nil)))))) pa_nil)) (by intro _; rfl))))))
    (pss_one (ps_ret pe_bl))
    pss_nil)
  (pss_one (ps_ret (pe_callB (cr_allK (K := K) rfl rfl) (by rfl) B.b_all (by decide +kernel) (pa_cons (pe_lc (own := [("one", 1), ("two", 2)]) rfl sc_is_growth.nd (pi_zipAK (K := K) rfl (by rfl) B.b_zip (pa_cons (pv 0) (pa_cons (pe_slice (sl_tupAK (K := K) rfl) (pv 0) (po_some pe_int) po_none) pa_nil))) (blkOk_by (own := [("one", 1), ("two", 2)]) (N := ["value", "one", "two", "to"]) (sc := defScope s_is_growth) (by decide +kernel)) (fun _ _ _ _ _ => (pg_tupK (K := K) (n := 2) rfl rfl (pgs_cons (pg_name (i := 1) sc_is_growth.nd rfl (by first | exact Or.inl rfl | exact Or.inr rfl)) (pgs_cons (pg_name (i := 2) sc_is_growth.nd rfl (by first | exact Or.inl rfl | exact Or.inr rfl)) pgs_nil)))) (fun _ _ _ _ _ => pts_nil) (fun _ _ _ _ _ => (pe_cmpR op_le (pv 1) (pv 2) (nomark _)))) pa_nil))))), ?_⟩
    rcases hb with ⟨p, xs, rfl, hp, hfl, rfl⟩ | ⟨k, hk, nk, rfl⟩
    rotate_left 1
    · walk_at "go"
      refine ⟨v, 2, 31, _, rfl, .inr ⟨k, hk, nk, rfl⟩, ?_⟩
      walk_at "go"
      exact q H (.refl _ _)
    walk_at "go"
    refine ⟨.ref p, 2, 31, _, rfl, .inl ⟨p, xs, rfl, hp, rfl⟩, ?_⟩
    walk_at "go"
    unfold growV at q
    refine br_nb (fun c1 => ?_) (fun c1 => ?_)
    · rw [c1] at q
      walk_at "go"
      exact q H (.refl _ _)
    rw [c1, Bool.true_and] at q
    have hl : xs.length ≤ 31 := by
      rw [Bool.and_eq_true, decide_eq_true_eq, decide_eq_true_eq] at c1
      omega
    have hkd : ∀ x ∈ xs, KdV K H x (kdF x) := fun x hx => KdV.flat (List.all_eq_true.mp hfl x hx)
    walk_at "go"
    refine lcT_pure (fun x => .bl (inB 0 ((xs.length : Int) - 1) x)) (fun _ => true) hp (by rw [sizeLine_eq]; omega) (fun _ => rfl) (fun x H1 hx o1 M kk => ?_) (fun x H1 hx hc1 o1 M kk => ?_) (fun D H1 hD o1 e4 => ?_)
    · walk_at "go"
      exact kk _ (.refl _ _)
    · have hp1 := o1.seqT hp
      walk_at "go"
      exact ⟨x, _, _, _, rfl, KdV.flat (List.all_eq_true.mp hfl x hx), kk _ (.refl _ _)⟩
    have ez : (xs.filter fun _ => true).map (fun x => V.bl (inB 0 ((xs.length : Int) - 1) x)) = (xs.map fun x => inB 0 ((xs.length : Int) - 1) x).map V.bl := by
      rw [List.filter_eq_self.mpr (fun _ _ => rfl), List.map_map]; rfl
    rw [ez] at e4
    walk_at "go"
    refine ⟨D, _, rfl, .of e4, ?_⟩
    have ea : (xs.map fun x => inB 0 ((xs.length : Int) - 1) x).all id = xs.all (inB 0 ((xs.length : Int) - 1)) := by
      rw [List.all_map]
      rfl
    rw [ea]
    walk_at "go"
    refine br_nb (fun c2 => ?_) (fun c2 => ?_)
    · rw [c2] at q
      walk_at "go"
      exact q H1 o1
    rw [c2, Bool.true_and] at q
    have hp1 := o1.seqT hp
    walk_at "go"
    rename_i p2 H2 hp2 o2
    have hp12 := o2.seqT hp1
    have hint : ∀ x ∈ xs, ∃ n : Int, x = .int n := fun x hx => by
      obtain ⟨n, e, _⟩ := inB_t (List.all_eq_true.mp c2 x hx)
      exact ⟨n, e⟩
    obtain ⟨ns, rfl⟩ : ∃ ns : List Int, xs = ns.map V.int := by
      clear q hp hp1 hp12 hp2 c1 c2 hfl hkd e4 ez ea hl
      induction xs with
      | nil => exact ⟨[], rfl⟩
      | cons x xs ih =>
        obtain ⟨n, rfl⟩ := hint x List.mem_cons_self
        obtain ⟨ns, rfl⟩ := ih fun y hy => hint y (List.mem_cons_of_mem _ hy)
        exact ⟨n :: ns, rfl⟩
    have e2 : cutV (ns.map V.int) (some 1) none = ns.tail.map V.int := by
      cases ns with
      | nil => rfl
      | cons n ns => exact cutV_tl
    rw [e2] at hp2
    have hlen : ns.tail.length = ns.length - 1 := List.length_tail
    refine lcZ_mk (m := ns.length - 1) (by rw [List.length_map, List.length_map, hlen]; omega) hp12 hp2 (fun D i H3 => Off [] H2 H3 ∧ ∃ bs : List Bool, H3 D = some (.lst (bs.map V.bl)) ∧ bs.length = i ∧ (bs.all id && leP ((ns.drop i).map V.int)) = leP (ns.map V.int))
      (fun D hD => ⟨.new hD, [], upd_same, rfl, by simp⟩) (fun D i H3 hD hi hP => ⟨hP.1.seqT hp12, hP.1.seqT hp2⟩) (fun D i x y T H3 hD hx hy hP hT => ?_) (fun D H3 hD hP => ?_)
    · obtain ⟨o3, bs, f1, f2, f3⟩ := hP
      rw [List.getElem?_map] at hx hy
      obtain ⟨a, ha, rfl⟩ := Option.map_eq_some_iff.mp hx
      obtain ⟨b, hb, rfl⟩ := Option.map_eq_some_iff.mp hy
      rw [List.getElem?_tail] at hb
      walk_at "go"
      refine ⟨rfl, ?_⟩
      walk_at "go"
      have oT : Off [] H3 (upd H3 T (.tup [.int a, .int b])) := .new hT
      have hbl : bs.length < 1000 := by
        have := (List.getElem?_eq_some_iff.mp ha).1
        rw [List.length_map] at hl
        omega
      refine g_app (oT.at nin_nil f1) (by rw [List.length_map, sizeLine_eq]; omega) ⟨(o3.trans oT).mut hD, bs ++ [decide (a ≤ b)], by rw [upd_same, List.map_append]; rfl, by simp [f2], ?_⟩
      rw [← f3, List.all_append]
      have ia := (List.getElem?_eq_some_iff.mp ha).1
      have ib := (List.getElem?_eq_some_iff.mp hb).1
      have e1 : ns.drop i = a :: b :: ns.drop (i + 2) := by
        rw [List.drop_eq_getElem_cons ia, List.drop_eq_getElem_cons ib]
        congr 1
        · rw [List.getElem?_eq_getElem ia] at ha
          exact Option.some.inj ha
        · congr 1
          rw [List.getElem?_eq_getElem ib] at hb
          exact Option.some.inj hb
      have e2 : ns.drop (i + 1) = b :: ns.drop (i + 2) := by
        rw [List.drop_eq_getElem_cons ib]
        congr 1
        rw [List.getElem?_eq_getElem ib] at hb
        exact Option.some.inj hb
      rw [e1, e2]
      show ((bs.all id && ([decide (a ≤ b)] : List Bool).all id) && leP (.int b :: (ns.drop (i + 2)).map V.int)) = (bs.all id && (decide (a ≤ b) && leP (.int b :: (ns.drop (i + 2)).map V.int)))
      rw [Bool.and_assoc]
      simp
    obtain ⟨o3, bs, f1, f2, f3⟩ := hP
    walk_at "go"
    refine ⟨D, bs, rfl, .of f1, ?_⟩
    have e3 : leP ((ns.drop (ns.length - 1)).map V.int) = true := by
      have hd : (ns.drop (ns.length - 1)).length ≤ 1 := by rw [List.length_drop]; omega
      match ns.drop (ns.length - 1), hd with
      | [], _ => rfl
      | [_], _ => rfl
      | _ :: _ :: _, hd => simp at hd
    rw [e3, Bool.and_true] at f3
    rw [f3]
    exact q H3 ((o1.trans o2).trans o3)
end
end SH
end

section
/-! #### the walk's words -/
local macro_rules | `(tactic| walk_at "ne0") => `(tactic| first
  | assumption
  | (refine Ne.symm ?_; assumption))
local macro_rules | `(tactic| walk_at "ne") => `(tactic| first
  | assumption
  | (refine Ne.symm ?_; assumption)
  | (refine' L2.ne_of_none ?gx (by assumption); (case gx => walk_at "hp"))
  | (refine' Ne.symm (L2.ne_of_none ?gx (by assumption)); (case gx => walk_at "hp")))
local macro_rules | `(tactic| walk_at "hp") => `(tactic| first
  | assumption
  | exact L2.upd_same
  | (refine' SH.upd_new ?gh (by assumption); (case gh => walk_at "hp"))
  | (refine' (L2.upd_ne ?gn).trans ?gh; (case gn => walk_at "ne0"); (case gh => walk_at "hp"))
  | (refine' SH.Off.at (by assumption) ?gn ?gh; (case gn => walk_at "nin"); (case gh => walk_at "hp")))
local macro_rules | `(tactic| walk_at "nin") => `(tactic| first
  | exact SH.nin_nil
  | (refine SH.nin_cons ?_ ?_; (· walk_at "ne0"); (· walk_at "nin")))
local macro_rules | `(tactic| walk_at "sq") => `(tactic| first
  | assumption
  | (apply L2.SqL.of; (· walk_at "hp"))
  | (apply L2.SqT.of; (· walk_at "hp"))
  | (refine' SH.seqT_new ?gx (by assumption); (case gx => walk_at "sq"))
  | (refine' SH.seqL_new ?gx (by assumption); (case gx => walk_at "sq"))
  | (refine' SH.Off.seqT (by assumption) ?gx; (case gx => walk_at "sq"))
  | (refine' SH.Off.seqL (by assumption) ?gy ?gx; (case gx => walk_at "sq"); (case gy => walk_at "nin")))
local macro_rules | `(tactic| walk_at "kd") => `(tactic| first
  | assumption | exact SH.KdV.int _ | exact SH.KdV.bl _ | exact SH.KdV.str _ | exact SH.KdV.non
  | (apply SH.KdV.tup; (· walk_at "sq")) | (apply SH.KdV.lst; (· walk_at "sq")))
/-- a way that cannot be -/
local macro_rules | `(tactic| walk_at "no") => `(tactic| (exfalso; first | assumption | omega | contradiction | (simp_all; done)))
/-- one step -/
local macro_rules | `(tactic| walk_at "g1") => `(tactic| with_reducible first
  | refine SH.g_var (by with_unfolding_all rfl) ?_ | refine SH.g_c ?_ | refine SH.g_op ?_ | refine SH.g_un ?_ | refine SH.g_I0 ?_ | refine SH.g_U ?_
  | refine SH.g_eqI ?_ | refine SH.g_neI ?_ | refine SH.g_eqS ?_ | refine SH.g_neS ?_
  | refine SH.g_test ?_ | refine SH.g_B ?_ | refine SH.g_isB ?_ | refine SH.g_and ?_ | refine SH.g_or ?_ | refine SH.g_not ?_ | refine SH.g_andV ?_ | refine SH.g_orV ?_ | refine SH.g_notV ?_ | refine SH.g_ifE ?_ | refine SH.g_chain ?_
  | refine SH.g_nil ?_ | refine SH.g_cons ?_ | refine SH.g_tup ?_ | refine SH.g_lst ?_ | refine SH.g_call ?_ | refine SH.g_fld ?_ | refine SH.g_meth ?_ | refine SH.g_make ?_ | refine SH.g_cb ?_ | refine SH.g_bm ?_
  | refine SH.g_seq ?_ | refine SH.g_asg ?_ | refine SH.g_name ?_ | refine SH.g_drop ?_ | refine SH.g_ret ?_ | refine SH.g_retN ?_ | refine SH.g_next ?_ | refine SH.g_brk ?_ | refine SH.g_cnt ?_ | refine SH.g_ifs ?_ | refine SH.g_par ?_ | refine SH.g_par2 ?_ | refine SH.g_fldS ?_ | refine SH.g_raise ?_ | refine SH.g_rs ?_
  | refine SH.g_sub ?_ | refine SH.g_yes ?_ | refine SH.g_sl ?_ | refine SH.g_noPart ?_ | refine SH.g_part ?_ | refine SH.g_intO ?_ | refine SH.g_dget ?_ | refine SH.g_dput ?_ | refine SH.g_forR ?_ | refine SH.g_forL ?_ | refine SH.g_forT ?_ | refine SH.g_lcR ?_ | refine SH.g_lcL ?_ | refine SH.g_lcT ?_ | refine SH.g_gcons ?_ | refine SH.g_gnil ?_
  | refine SH.br_t ?_ | refine SH.br_f ?_
  | refine SH.g_int ?_ | refine SH.g_abs ?_ | refine SH.g_max2 ?_ | refine SH.g_min2 ?_)
local macro_rules | `(tactic| walk_at "g2") => `(tactic| first
  | walk_at "g1"
  | ((with_reducible refine' SH.g_isiInt ?ga ?gz); (case ga => walk_at "kd"))
  | ((with_reducible refine' SH.g_isiBool ?ga ?gz); (case ga => walk_at "kd"))
  | ((with_reducible refine' SH.g_isiStr ?ga ?gz); (case ga => walk_at "kd"))
  | ((with_reducible refine' SH.g_isiTup ?ga ?gz); (case ga => walk_at "kd"))
  | ((with_reducible refine' SH.g_ixT ?ga ?gb ?gz); (case ga => walk_at "sq"); (case gb => rfl))
  | ((with_reducible refine' SH.g_ixL ?ga ?gb ?gz); (case ga => walk_at "sq"); (case gb => first | rfl | (apply SH.atI_refs; assumption)))
  | ((with_reducible refine SH.br_F ?_ ?_); (· decide +kernel)) | ((with_reducible refine SH.br_T ?_ ?_); (· decide +kernel)) | ((with_reducible refine SH.br_NF ?_ ?_); (· decide +kernel)) | ((with_reducible refine SH.br_NT ?_ ?_); (· decide +kernel))
  | ((with_reducible refine' SH.g_gtup ?ga ?gb ?gz); (case ga => walk_at "sq"); (case gb => rfl))
  | ((with_reducible refine' SH.g_lenT ?ga ?gz); (case ga => walk_at "sq"))
  | ((with_reducible refine' SH.g_lenL ?ga ?gz); (case ga => walk_at "sq"))
  | ((with_reducible refine SH.g_mkT (SH.sz rfl) ?_); intro _ _)
  | ((with_reducible refine SH.g_mkL (SH.sz rfl) ?_); intro _ _)
  | ((with_reducible refine SH.g_dnew ?_); intro _ _)
  | ((with_reducible refine' SH.g_tupL ?ga ?gz); (case ga => walk_at "sq"); intro _ _)
  | ((with_reducible refine' SH.g_lstL ?ga ?gz); (case ga => walk_at "sq"); intro _ _)
  | ((with_reducible refine' SH.g_lstT ?ga ?gz); (case ga => walk_at "sq"); intro _ _)
  | ((with_reducible refine' SH.g_dgR ?ga ?gb ?gz); (case ga => walk_at "hp"); (case gb => walk_at "dv"))
  | ((with_reducible refine' SH.g_fldR ?ga ?gb ?gc ?gd ?gz); (case ga => walk_at "hp"); (case gb => walk_at "cl"); (case gc => walk_at "na"); (case gd => walk_at "fv"))
  | ((with_reducible refine' SH.g_insR ?ga ?gb ?gz); (case ga => walk_at "hp"); (case gb => walk_at "fn"))
  | ((with_reducible refine' SH.g_setL ?ga ?gb ?gz); (case ga => walk_at "hp"); (case gb => rfl))
  | ((with_reducible refine SH.g_I ?_ ?_); (· walk_at "ci"))
  | ((with_reducible refine' SH.g_slL ?ga ?gz); (case ga => walk_at "sq"); intro _ _)
  | ((with_reducible refine' SH.g_cat ?ga ?gb ?gc ?gz); (case ga => walk_at "hp"); (case gb => walk_at "hp"); (case gc => walk_at "ls"); intro _ _))
/-- the side conditions of numbers: a divisor, a factor -/
local macro_rules | `(tactic| walk_at "ci") => `(tactic| first
  | (show _ ≠ _; omega) | (show _ < _; omega) | (constructor <;> omega) | (refine Or.inr ⟨?_, ?_⟩ <;> (show _ < _; omega)) | (refine Or.inl ⟨?_, ?_⟩ <;> (show _ < _; omega)) | (refine ⟨?_, ?_, ?_⟩ <;> decide))
local macro_rules | `(tactic| walk_at "ls") => `(tactic| first | (show _ ≤ _; exact Nat.le_trans (by assumption) (by decide)) | (show _ ≤ _; exact Nat.le_trans (by simp; omega) (by decide : 1000 ≤ sizeLine)))
local macro_rules | `(tactic| walk_at "dv") => `(tactic| rfl)
local macro_rules | `(tactic| walk_at "fv") => `(tactic| rfl)
local macro_rules | `(tactic| walk_at "fn") => `(tactic| rfl)
local macro_rules | `(tactic| walk_at "cl") => `(tactic| assumption)
local macro_rules | `(tactic| walk_at "na") => `(tactic| assumption)
local macro_rules | `(tactic| walk_at "go") => `(tactic| repeat walk_at "g2")
/-- a way is split -/
local macro_rules | `(tactic| walk_at "br") => `(tactic| with_reducible first
  | refine SH.br_d (fun _ => ?_) (fun _ => ?_) | refine SH.br_nd (fun _ => ?_) (fun _ => ?_) | refine SH.br_b (fun _ => ?_) (fun _ => ?_))
/-- all ways -/
local macro_rules | `(tactic| walk_at "all") => `(tactic| repeat' first | walk_at "g2" | (walk_at "br" <;> try (walk_at "no")))
/-- a truth value is the other -/
local macro_rules | `(tactic| walk_at "bq") => `(tactic| first | rfl | (simp_all; done) | (simp_all; omega) | (simp only [decide_eq_true_eq, decide_eq_false_iff_not, Bool.and_eq_true, Bool.or_eq_true] at *; omega))
/-- what was tracked is as it was -/
local macro_rules | `(tactic| walk_at "of") => `(tactic| first
  | assumption
  | exact SH.Off.refl _ _
  | (refine' SH.Off.new2 ?gx (by assumption); (case gx => walk_at "of"))
  | (refine' SH.Off.mut ?gx (by assumption); (case gx => walk_at "of"))
  | (refine' SH.Off.trans' ?gx (by assumption) ?gy; (case gy => (intro _ h; (first | exact h | (simp at h; done) | (simp at h ⊢; simp [h]; done)))); (case gx => walk_at "of")))
/-- kinds; parts of tuples; stars -/
local macro_rules | `(tactic| walk_at "g2") => `(tactic| first
  | (with_reducible first | refine SH.br_ntt ?_ | refine SH.br_ntf ?_ | refine SH.br_k ?_ | refine SH.br_nk ?_ | refine SH.g_star ?_ | refine SH.g_forR2 ?_ | refine SH.g_lcZ ?_ | refine SH.g_enL ?_)
  | ((with_reducible refine' SH.g_slA ?ga ?gz); (case ga => walk_at "sq"); intro _ _ _ _)
  | ((with_reducible refine' SH.g_app' ?ga ?gb ?gz); (case ga => walk_at "hp"); (case gb => walk_at "lt"); intro _ _ _)
  | ((with_reducible refine' SH.g_bml ?ga ?gz); (case ga => walk_at "sq"))
  | ((with_reducible refine' SH.g_popF ?ga ?gz); (case ga => walk_at "hp"); intro _ _ _)
  | (with_reducible first | refine SH.g_pnil ?_ | refine SH.g_pcons ?_ | (refine SH.g_disp ?_; intro _ _))
  | ((with_reducible refine' SH.g_kw ?gz))
  | ((with_reducible refine SH.g_kwR rfl ?_)))
local macro_rules | `(tactic| walk_at "lt") => `(tactic| (rw [PySem.sizeLine_eq]; omega))
namespace SH
open PySem PySem.Spec PyProof.Rows L2
/-! ### greatest means: the package's own -/
def oV : Option Int → V
  | none => .non
  | some x => .int x
def spWalks (K : PySem.W.Frag) : Sp := fun vs H Q _ => ∃ p g T, vs = [.ref p, .int ((T : Nat) : Int)] ∧ SqT K H p (gV g) ∧ GrOk g ∧ T < g.length ∧ (∀ l, l ≤ T → gAt g l ≤ T) ∧
  ∀ R H' ps, H' R = some (.lst (ps.map V.ref)) → Paired (fun (q : Addr) (k : Nat) => H' q = some (.lst ((rowsN g T k).map oV))) ps (List.range (T + 2)) → Off [] H H' → Q (.ref R) H'
def oP (K : PySem.W.Frag) (H : Hp) (v : V) (o : Option (Int × Int)) : Prop := match o with
  | none => v = .non
  | some f => ∃ q, v = .ref q ∧ SqT K H q [.int f.1, .int f.2]
theorem oP.off {K : PySem.W.Frag} {S : List Addr} {H H' : Hp} {v : V} {o : Option (Int × Int)} (h : oP K H v o) (o' : Off S H H') : oP K H' v o := by
  cases o with
  | none => exact h
  | some f =>
    obtain ⟨q, e, h⟩ := h
    exact ⟨q, e, o'.seqT h⟩
def spLesser (K : PySem.W.Frag) : Sp := fun vs H Q _ => ∃ p a v o, vs = [.ref p, v] ∧ SqT K H p [.int a.1, .int a.2] ∧ oP K H v o ∧ (-100000 ≤ a.1 ∧ a.1 ≤ 100000) ∧ (∀ b, o = some b → -100000 ≤ b.1 ∧ b.1 ≤ 100000) ∧ ∀ u, oP K H u (some (lesserP a o)) → Q u H
def spFE (K : PySem.W.Frag) : Addr → List Nat → Nat → Hp → VK → Prop := fun _ g s H Q => ∀ H' r, H' r = some (.tup [.int (bestM g (topOf g s)).1, .int (bestM g (topOf g s)).2]) → Off [] H H' → Q (.ref r) H'
theorem oV_get {row : List (Option Int)} {v : Nat} (h : v < row.length) : atI (row.map oV) ((v : Nat) : Int) = some (oV (rGet row v)) := by
  unfold atI ixN
  rw [if_pos (by omega), if_pos (by rw [List.length_map]; omega)]
  show (row.map oV)[(v : Int).toNat]? = _
  rw [Int.toNat_natCast, List.getElem?_map, List.getElem?_eq_getElem h]
  unfold rGet
  rw [List.getElem?_eq_getElem h]
  rfl
theorem rowsN_bd {g : List Nat} {T : Nat} (cl : ∀ l, l ≤ T → gAt g l ≤ T) {k v : Nat} {x : Int} (h : rGet (rowsN g T k) v = some x) : 0 ≤ x ∧ x ≤ (k * T : Nat) := by
  obtain ⟨u, cs, h1, h2, h3, _, h5⟩ := (rowsN_ok cl k).snd v x (rGet_some.mp h)
  have bd : ∀ (cs : List Nat) {u : Nat}, u ≤ T → okR g u cs → sumN cs ≤ (cs.length * T : Nat) := fun cs => by
    induction cs with
    | nil => intro u _ _; show (0 : Int) ≤ _; omega
    | cons c cs ih =>
      intro u hu ok
      have h := ih (cl _ (by omega : u - c ≤ T)) ok.2
      have hc := ok.1
      show (c : Int) + sumN cs ≤ ((cs.length + 1) * T : Nat)
      rw [Nat.succ_mul]
      omega
  have := bd cs h1 h3
  rw [h2, h5] at this
  have := sumN_nn cs
  omega
theorem refs_ne {ps : List Addr} {row : List (Option Int)} {k : Nat} (pl : ps.length = k + 1) (h : ps.map V.ref = row.map oV) : False := by
  cases ps with
  | nil => cases pl
  | cons a ps =>
    cases row with
    | nil => cases h
    | cons o row =>
      rw [List.map_cons, List.map_cons] at h
      injection h with h1 _
      cases o <;> cases h1
section
variable {P : Program} {w : World} {K : PySem.W.Frag} {mg : Str → Option Value} {base : Heap}
theorem ok_demand_stock (T : Txt P w K mg) : DefOk P w K mg base "demand_stock" 4 ["growth", "start"] (spDemS K) := by
  refine T.d_demand_stock.ok sc_demand_stock (fun _ _ _ _ _ _ us hl => match us, hl with | [_, _], _ => rfl) (fun vs H Q E h => ?_) (fun f cdv A outer s H vs Q E hr h => ?_)
  · obtain ⟨v, u, rfl, _⟩ := h
    rfl
  · obtain ⟨v, u, rfl, h⟩ := h
    have B := T.blt
    have hu := hu_of hr
    have G_demand := ok_demand (base := base) T
    have G_is_growth := ok_is_growth (base := base) T
    have G_is_in := ok_is_in (base := base) T
    refine ⟨_, (pss_cons (ps_expr (pe_df G_demand (hr.mono (by decide)) (L2N.passes_call (L2N.takes_of rfl rfl rfl rfl) fun _ _ _ _ z => z) (pa_cons (pe_df G_is_growth (hr.mono (by decide)) (L2N.passes_call (L2N.takes_of rfl rfl rfl rfl) fun _ _ _ _ z => z) (pa_cons (pv 0) pa_nil)) (pa_cons pe_str pa_nil))))
  (pss_one (ps_expr (pe_df G_demand (hr.mono (by decide)) (L2N.passes_call (L2N.takes_of rfl rfl rfl rfl) fun _ _ _ _ z => z) (pa_cons (pe_df G_is_in (hr.mono (by decide)) (L2N.passes_call (L2N.takes_of rfl rfl rfl rfl) fun _ _ _ _ z => z) (pa_cons (pv 1) (pa_cons pe_int (pa_cons (pe_op op_sub (pe_callB (c_lenK (K := K) rfl) (by rfl) B.b_len PySem.boot_len (pa_cons (pv 0) pa_nil)) pe_int) pa_nil)))) (pa_cons pe_str pa_nil)))))), ?_⟩
    have go : ∀ (p : Addr) (g : List Nat), SqT K H p (gV g) → GrOk g → GroA K H (.ref p) true := fun p g hp G => .inl ⟨p, _, rfl, hp, by unfold gV gI; simp [List.all_eq_true, flB], G.val.symm⟩
    rcases h with ⟨p, g, s, ⟨rfl, rfl, hp, G, hs⟩, q⟩ | ⟨nm, ⟨rfl, hb⟩ | ⟨rfl, p, g, rfl, hp, G, fu, iu⟩, q⟩
    · walk_at "go"
      refine ⟨_, true, rfl, go p g hp G, fun H1 o1 => ?_⟩
      walk_at "go"
      refine ⟨_, _, rfl, fun _ => ?_, fun z => by cases z⟩
      have hp1 := o1.seqT hp
      walk_at "go"
      refine ⟨_, _, _, _, rfl, .int _, ?_⟩
      have e : inB 0 (((gV g).length : Int) - 1) (.int (s : Int)) = true := by
        rw [gV_len]
        show (decide ((0 : Int) ≤ (s : Int)) && decide ((s : Int) ≤ (g.length : Int) - 1)) = true
        rw [decide_eq_true (by omega), decide_eq_true (by omega)]
        rfl
      rw [e]
      walk_at "go"
      refine ⟨_, _, rfl, fun _ => ?_, fun z => by cases z⟩
      walk_at "go"
      exact q H1 o1
    · walk_at "go"
      refine ⟨v, false, rfl, hb, fun H1 o1 => ?_⟩
      walk_at "go"
      exact ⟨_, _, rfl, (fun z => by cases z), fun _ => q H1 o1⟩
    · walk_at "go"
      refine ⟨_, true, rfl, go p g hp G, fun H1 o1 => ?_⟩
      walk_at "go"
      refine ⟨_, _, rfl, fun _ => ?_, fun z => by cases z⟩
      have hp1 := o1.seqT hp
      walk_at "go"
      refine ⟨_, _, _, _, rfl, KdV.flat fu, ?_⟩
      rw [gV_len, iu]
      walk_at "go"
      exact ⟨_, _, rfl, (fun z => by cases z), fun _ => q H1 o1⟩
theorem ok_top_of (T : Txt P w K mg) : DefOk P w K mg base "top_of" 1 ["growth", "start"] (spTop K) := by
  refine T.d_top_of.ok sc_top_of (fun _ _ _ _ _ _ us hl => match us, hl with | [_, _], _ => rfl) (fun vs H Q E h => ?_) (fun f cdv A outer s H vs Q E hr h => ?_)
  · obtain ⟨p, g, s, rfl, _⟩ := h
    rfl
  · obtain ⟨p, g, s, rfl, hp, G, hs, q⟩ := h
    have B := T.blt
    have hu := hu_of hr
    refine ⟨_, (pss_cons (ps_par (i := 2) (j := 3) (by rfl) sc_top_of.nd rfl rfl (by decide) rfl rfl (pa_cons (pv 1) (pa_cons (pv 1) pa_nil)) (by rfl))
  (pss_cons (ps_for (passes_of rfl) rfl (pi_range1 rfl B.b_range (pa_cons (pe_callB (c_lenK (K := K) rfl) (by rfl) B.b_len PySem.boot_len (pa_cons (pv 0) pa_nil)) pa_nil)) (pg_name (i := 4) sc_top_of.nd rfl (by first | exact Or.inl rfl | exact Or.inr rfl))
    (pss_cons (ps_set (i := 3) sc_top_of.nd rfl (by first | exact Or.inl rfl | exact Or.inr rfl) (pe_ix (ix_tupK (K := K) rfl) (pv 0) (pv 3) (fun _ _ => rfl)))
  (pss_one (ps_set (i := 2) sc_top_of.nd rfl (by first | exact Or.inl rfl | exact Or.inr rfl) (pe_callB (c_max2 rfl) (by rfl) B.b_max (by decide +kernel) (pa_cons (pv 2) (pa_cons (pv 3) pa_nil)))))))
  (pss_one (ps_ret (pv 2))))), ?_⟩
    have n1 := G.n1
    walk_at "go"
    rw [gV_len]
    refine forR_mk (fun i σ H1 => ∃ x4, σ = [some (.ref p), some (.int (s : Int)), some (.int ((topN g s i : Nat) : Int)), some (.int ((orb g s i : Nat) : Int)), x4] ∧ H1 = H) ⟨by omega, by omega⟩ ⟨_, rfl, rfl⟩ (fun i σ H1 hi hP => ?_) (fun σ H1 hP => ?_)
    · obtain ⟨x4, rfl, rfl⟩ := hP
      walk_at "go"
      refine g_ixT hp (gV_at (G.orb_lt hs i)) ?_
      walk_at "go"
      refine ⟨some (.int (i : Int)), ?_, rfl⟩
      have e : (if ((gAt g (orb g s i) : Nat) : Int) > ((topN g s i : Nat) : Int) then ((gAt g (orb g s i) : Nat) : Int) else ((topN g s i : Nat) : Int)) = ((topN g s (i + 1) : Nat) : Int) := by
        show _ = ((max (topN g s i) (gAt g (orb g s i)) : Nat) : Int)
        split <;> omega
      rw [e]
      rfl
    · obtain ⟨x4, rfl, rfl⟩ := hP
      walk_at "go"
      have e : ((g.length : Nat) : Int).toNat = g.length := Int.toNat_natCast _
      rw [e]
      exact q
theorem okL_top (T : Txt P w K mg) : DefL P w K mg base "top" 5 ["growth", "start"] (spGS K fun _ g s H Q => ∀ H', Off [] H H' → Q (.int ((topOf g s : Nat) : Int)) H') := by
  refine T.d_top.okL sc_top (fun _ _ _ _ _ _ us hl => match us, hl with | [_, _], _ => rfl) (fun vs H Q E h => ?_) (fun f cdv A outer s H vs Q E hr h => ?_)
  · obtain ⟨v, u, rfl, _⟩ := h
    rfl
  · obtain ⟨v, u, rfl, h⟩ := h
    have B := T.blt
    have hu := hu_of hr
    have G_demand_stock := ok_demand_stock (base := base) T
    have G_top_of := ok_top_of (base := base) T
    refine ⟨_, (pss_cons (ps_expr (pe_df G_demand_stock (hr.mono (by decide)) (L2N.passes_call (L2N.takes_of rfl rfl rfl rfl) fun _ _ _ _ z => z) (pa_cons (pv 0) (pa_cons (pv 1) pa_nil))))
  (pss_one (ps_ret (pe_df G_top_of (hr.mono (by decide)) (L2N.passes_call (L2N.takes_of rfl rfl rfl rfl) fun _ _ _ _ z => z) (pa_cons (pv 0) (pa_cons (pv 1) pa_nil)))))), ?_⟩
    rcases h with ⟨p, g, s, ha, q⟩ | ⟨nm, hb, q⟩
    · walk_at "go"
      refine ⟨v, u, rfl, .inl ⟨p, g, s, ha, fun H1 o1 => ?_⟩⟩
      obtain ⟨rfl, rfl, hp, G, hs⟩ := ha
      walk_at "go"
      refine ⟨p, g, s, rfl, o1.seqT hp, G, hs, ?_⟩
      walk_at "go"
      exact q H1 o1
    · walk_at "go"
      exact ⟨v, u, rfl, .inr ⟨nm, hb, fun H1 o1 => q H1 o1⟩⟩
theorem ok_top (T : Txt P w K mg) : DefOk P w K mg base "top" 5 ["growth", "start"] (spGS K fun _ g s H Q => ∀ H', Off [] H H' → Q (.int ((topOf g s : Nat) : Int)) H') := (okL_top T).ok
theorem ok_lesser (T : Txt P w K mg) : DefOk P w K mg base "lesser" 1 ["one", "other"] (spLesser K) := by
  refine T.d_lesser.ok sc_lesser (fun _ _ _ _ _ _ us hl => match us, hl with | [_, _], _ => rfl) (fun vs H Q E h => ?_) (fun f cdv A outer s H vs Q E hr h => ?_)
  · obtain ⟨p, a, v, o, rfl, _⟩ := h
    rfl
  · obtain ⟨p, a, v, o, rfl, hp, ho, ha, hb, q⟩ := h
    have B := T.blt
    have hu := hu_of hr
    refine ⟨_, (pss_cons (ps_if (PW.pt (pw_or (pt_cmpR op_isN (pv 1) pe_non (nomark _)) (pw_or1 (PW.pt (pw_and (pt_cmpR op_notN (pv 0) pe_non (nomark _)) (pw_and1 (pt_cmpR op_le (pe_op op_mul (pe_ix (ix_tupK (K := K) rfl) (pv 0) pe_int (fun _ _ => rfl)) (pe_ix (ix_tupK (K := K) rfl) (pv 1) pe_int (fun _ _ => rfl))) (pe_op op_mul (pe_ix (ix_tupK (K := K) rfl) (pv 1) pe_int (fun _ _ => rfl)) (pe_ix (ix_tupK (K := K) rfl) (pv 0) pe_int (fun _ _ => rfl))) (nomark _))))))))
    (pss_one (ps_ret (pv 0)))
    pss_nil)
  (pss_one (ps_ret (pv 1)))), ?_⟩
    cases o with
    | none =>
      cases (show v = .non from ho)
      walk_at "go"
      refine ⟨rfl, ?_⟩
      walk_at "go"
      exact q _ ⟨p, rfl, hp⟩
    | some b =>
      obtain ⟨pb, rfl, hpb⟩ := ho
      have hb := hb b rfl
      have ne : ¬ V.ref pb = V.non := fun z => by cases z
      have ne2 : ¬ V.ref p = V.non := fun z => by cases z
      walk_at "go"
      refine ⟨rfl, ?_⟩
      walk_at "go"
      refine br_F ne ?_
      walk_at "go"
      refine ⟨rfl, ?_⟩
      walk_at "go"
      refine br_NF ne2 ?_
      walk_at "go"
      have q' : ∀ u, oP K H u (some (if a.1 * b.2 ≤ b.1 * a.2 then a else b)) → Q u H := q
      refine br_d (fun c => ?_) (fun c => ?_)
      · rw [if_pos c] at q'
        walk_at "go"
        exact q' _ ⟨p, rfl, hp⟩
      · rw [if_neg c] at q'
        walk_at "go"
        exact q' _ ⟨pb, rfl, hpb⟩
theorem ok_walks_of (T : Txt P w K mg) : DefOk P w K mg base "walks_of" 1 ["growth", "last"] (spWalks K) := by
  refine T.d_walks_of.ok sc_walks_of (fun _ _ _ _ _ _ us hl => match us, hl with | [_, _], _ => rfl) (fun vs H Q E h => ?_) (fun f cdv A outer s H vs Q E hr h => ?_)
  · obtain ⟨p, g, T0, rfl, _⟩ := h
    rfl
  · obtain ⟨p, g, T0, rfl, hp, G, hT, cl, q⟩ := h
    have B := T.blt
    have hu := hu_of hr
    refine ⟨_, (pss_cons (ps_set (i := 3) sc_walks_of.nd rfl (by first | exact Or.inl rfl | exact Or.inr rfl) (pe_lst (pa_cons (pe_lc (own := [("stock", 2)]) rfl sc_walks_of.nd (pi_range1 rfl B.b_range (pa_cons (pe_op op_add (pv 1) pe_int) pa_nil)) (blkOk_by (own := [("stock", 2)]) (N := ["growth", "last", "stock", "rows", "season", "row", "caught", "catch", "after"]) (sc := defScope s_walks_of) (by decide +kernel)) (fun _ _ _ _ _ => (pg_name (i := 2) sc_walks_of.nd rfl (by first | exact Or.inl rfl | exact Or.inr rfl))) (fun _ _ _ _ _ => pts_nil) (fun _ _ _ _ _ => pe_int)) pa_nil)))
  (pss_cons (ps_for (passes_of rfl) rfl (pi_range1 rfl B.b_range (pa_cons (pe_op op_add (pv 1) pe_int) pa_nil)) (pg_name (i := 4) sc_walks_of.nd rfl (by first | exact Or.inl rfl | exact Or.inr rfl))
    (pss_cons (ps_setLc (i := 5) (own := [("stock", 2)]) rfl sc_walks_of.nd rfl rfl (sw_true rfl rfl rfl (by decide +kernel)) (pi_range1 rfl B.b_range (pa_cons (pe_op op_add (pv 1) pe_int) pa_nil)) (blkOk_by (own := [("stock", 2)]) (N := ["growth", "last", "stock", "rows", "season", "row", "caught", "catch", "after"]) (sc := defScope s_walks_of) (by decide +kernel)) (fun _ _ _ _ _ => (pg_name (i := 2) sc_walks_of.nd rfl (by first | exact Or.inl rfl | exact Or.inr rfl))) (fun _ _ _ _ _ => pts_nil) (fun _ _ _ _ _ => pe_non))
  (pss_cut (ps_for (passes_of rfl) rfl (pi_enumK (K := K) rfl (by rfl) B.b_enumerate (pa_cons (pe_ix (ix_listK (K := K) rfl) (pv 3) (pe_un un_neg pe_int) (fun _ _ => rfl)) pa_nil)) (pg_tupK (K := K) (n := 2) rfl rfl (pgs_cons (pg_name (i := 2) sc_walks_of.nd rfl (by first | exact Or.inl rfl | exact Or.inr rfl)) (pgs_cons (pg_name (i := 6) sc_walks_of.nd rfl (by first | exact Or.inl rfl | exact Or.inr rfl)) pgs_nil)))
    (pss_one (ps_for (passes_of rfl) rfl (pi_range1 rfl B.b_range (pa_cons (pe_ifExp (pt_cmpR op_notN (pv 6) pe_non (nomark _)) (pe_op op_add (pv 2) pe_int) pe_int) pa_nil)) (pg_name (i := 7) sc_walks_of.nd rfl (by first | exact Or.inl rfl | exact Or.inr rfl))
    (pss_cons (ps_set (i := 8) sc_walks_of.nd rfl (by first | exact Or.inl rfl | exact Or.inr rfl) (pe_ix (ix_tupK (K := K) rfl) (pv 0) (pe_op op_sub (pv 2) (pv 7)) (fun _ _ => rfl)))
  (pss_one (ps_if (PW.pt (pw_or (pt_cmpR op_isN (pe_ix (ix_listK (K := K) rfl) (pv 5) (pv 8) (fun _ _ => rfl)) pe_non (nomark _)) (pw_or1 (pt_cmpR op_lt (pe_ix (ix_listK (K := K) rfl) (pv 5) (pv 8) (fun _ _ => rfl)) (pe_op op_add (pv 6) (pv 7)) (nomark _)))))
    (pss_one (ps_asg (pe_op op_add (pv 6) (pv 7)) (pg_sub (pv 5) (pv 8) set_list)))
    pss_nil))))))
  (pss_one (ps_expr (pe_bmK (K := K) rfl PySem.F.plainAttrs_list PySem.F.slot_list_append PySem.F.type_list_append mt_append (pv 3) (pa_cons (pv 5) pa_nil)))))))
  (pss_one (ps_ret (pv 3))))), ?_⟩
    have n1 := G.n1
    have eT : ((T0 : Nat) : Int) + 1 = ((T0 + 1 : Nat) : Int) := by omega
    walk_at "go"
    rw [eT]
    refine lcR_map (fun _ => .int 0) ⟨by omega, by omega⟩ (by rw [sizeLine_eq]; omega) (fun x => rfl) (fun i H1 hi o1 M kk => ?_) (fun D H1 hD o1 e1 => ?_)
    · walk_at "go"
      exact kk _ (.refl _ _)
    rw [Int.toNat_natCast] at e1
    have er0 : ((List.range (T0 + 1)).map fun _ => V.int 0) = (rowsN g T0 0).map oV := by
      show _ = (List.replicate (T0 + 1) (some (0 : Int))).map oV
      rw [List.map_replicate, List.map_const', List.length_range]
      rfl
    rw [er0] at e1
    walk_at "go"
    rename_i R hR
    have nDR : D ≠ R := ne_of_none e1 hR
    have oR : Off [] H1 (upd H1 R (.lst [.ref D])) := .new hR
    have hR0 : H R = none := o1.back hR
    rw [eT]
    refine forR_mk (fun k σ H2 => ∃ x2 x4 x5 x6 x7 x8 ps, σ = [some (.ref p), some (.int (T0 : Int)), x2, some (.ref R), x4, x5, x6, x7, x8] ∧ H2 R = some (.lst (ps.map V.ref)) ∧ Paired (fun (q : Addr) (k : Nat) => H2 q = some (.lst ((rowsN g T0 k).map oV))) ps (List.range (k + 1)) ∧ Off [] H H2) ⟨by omega, by omega⟩
      ⟨_, _, _, _, _, _, [D], rfl, upd_same, .cons (oR.at nin_nil e1) .nil, o1.trans oR⟩ (fun k σ H2 hk hP => ?_) (fun σ H2 hP => ?_)
    rotate_left 1
    · obtain ⟨x2, x4, x5, x6, x7, x8, ps, rfl, f1, f2, f3⟩ := hP
      walk_at "go"
      rw [Int.toNat_natCast] at f2
      exact q R H2 ps f1 f2 f3
    obtain ⟨x2, x4, x5, x6, x7, x8, ps, rfl, f1, f2, f3⟩ := hP
    rw [Int.toNat_natCast] at hk
    have pl := Paired.length f2
    rw [List.length_range] at pl
    walk_at "go"
    rw [eT]
    refine lcR_map (fun _ => .non) ⟨by omega, by omega⟩ (by rw [sizeLine_eq]; omega) (fun x => rfl) (fun i H1 hi o1 M kk => ?_) (fun W H3 hW o3 e3 => ?_)
    · walk_at "go"
      exact kk _ (.refl _ _)
    rw [Int.toNat_natCast] at e3
    have er1 : ((List.range (T0 + 1)).map fun _ => V.non) = (nextN g T0 (rowsN g T0 k) 0).map oV := by
      show _ = (List.replicate (T0 + 1) (none : Option Int)).map oV
      rw [List.map_replicate, List.map_const', List.length_range]
      rfl
    rw [er1] at e3
    obtain ⟨pk, hpk, hrow⟩ : ∃ pk, ps[k]? = some pk ∧ H2 pk = some (.lst ((rowsN g T0 k).map oV)) := by
      obtain ⟨pk, h1, h2⟩ := paired_get'' f2 (i := k) (y := k) (by rw [List.getElem?_range (by omega)])
      exact ⟨pk, h1, h2⟩
    have f13 := o3.at nin_nil f1
    have hrow3 := o3.at nin_nil hrow
    have hat : atI (ps.map V.ref) (-1) = some (.ref pk) := by
      unfold atI ixN
      rw [if_neg (by omega), if_pos (by rw [List.length_map, pl]; omega)]
      show (ps.map V.ref)[_]? = _
      rw [List.length_map, pl, show ((-1 : Int) + ((k + 1 : Nat) : Int)).toNat = k by omega, List.getElem?_map, hpk]
      rfl
    have nWp : pk ≠ W := ne_of_none hrow hW
    have nWR : R ≠ W := ne_of_none f1 hW
    have hW0 : H W = none := f3.back hW
    walk_at "go"
    refine g_cut (fun σ H4 => ∃ x2 x6 x7 x8, σ = [some (.ref p), some (.int (T0 : Int)), x2, some (.ref R), some (.int (k : Int)), some (.ref W), x6, x7, x8] ∧ Off [W] H3 H4 ∧ H4 W = some (.lst ((rowsN g T0 (k + 1)).map oV))) ?_ (fun σ H4 hM => ?_)
    · walk_at "go"
      refine g_ixL (.of f13) hat ?_
      walk_at "go"
      have prl := rowsN_len g T0 k
      refine enL_mk (fun i σ H4 => ∃ x2 x6 x7 x8, σ = [some (.ref p), some (.int (T0 : Int)), x2, some (.ref R), some (.int (k : Int)), some (.ref W), x6, x7, x8] ∧ Off [W] H3 H4 ∧ H4 W = some (.lst ((nextN g T0 (rowsN g T0 k) i).map oV))) (.of hrow3)
        ⟨_, _, _, _, rfl, .refl _ _, e3⟩ (fun i σ H4 hi hP => ?_) (fun i x Tt σ H4 hi hP hTt => ?_) (fun σ H4 hP => ?_)
      · obtain ⟨y2, y6, y7, y8, rfl, o4, e4⟩ := hP
        exact .of (o4.at (by simpa using nWp) hrow3)
      rotate_left 1
      · obtain ⟨y2, y6, y7, y8, rfl, o4, e4⟩ := hP
        rw [List.length_map, prl] at e4
        exact ⟨_, _, _, _, rfl, o4, e4⟩
      obtain ⟨y2, y6, y7, y8, rfl, o4, e4⟩ := hP
      rw [List.getElem?_map] at hi
      obtain ⟨oo, hoo, rfl⟩ := Option.map_eq_some_iff.mp hi
      have hi2 := (List.getElem?_eq_some_iff.mp hoo).1
      have hg : rGet (rowsN g T0 k) i = oo := by unfold rGet; rw [hoo]; rfl
      have enx : nextN g T0 (rowsN g T0 k) (i + 1) = rowS g i (nextN g T0 (rowsN g T0 k) i) oo := by
        show rowS g i _ (rGet (rowsN g T0 k) i) = _
        rw [hg]
      have oT : Off [] H4 (upd H4 Tt (.tup [.int (i : Int), oV oo])) := .new hTt
      have e4' := oT.at nin_nil e4
      have o4' := o4.trans (oT.mono (S' := [W]) (by simp))
      have hpT := (o4'.seqT (o3.seqT (f3.seqT hp)))
      walk_at "go"
      generalize upd H4 Tt (.tup [.int (i : Int), oV oo]) = H5 at *
      walk_at "go"
      cases oo with
      | none =>
        refine ⟨rfl, ?_⟩
        walk_at "go"
        refine forR_mk (fun j σ H6 => σ = _ ∧ H6 = H5) (by decide) ⟨rfl, rfl⟩ (fun j σ H6 hj hP => absurd hj (Nat.not_lt_zero j)) (fun σ H6 hP => ?_)
        obtain ⟨rfl, rfl⟩ := hP
        rw [enx]
        exact ⟨_, _, _, _, rfl, o4', e4'⟩
      | some y =>
        refine ⟨rfl, ?_⟩
        walk_at "go"
        refine br_NF (fun w : oV (some y) = V.non => by cases w) ?_
        walk_at "go"
        have eI : ((i : Nat) : Int) + 1 = ((i + 1 : Nat) : Int) := by omega
        rw [eI]
        have nl := nextN_len g T0 (rowsN g T0 k) i
        refine forR_mk (fun j σ H6 => ∃ x7 x8, σ = [some (.ref p), some (.int (T0 : Int)), some (.int (i : Int)), some (.ref R), some (.int (k : Int)), some (.ref W), some (.int y), x7, x8] ∧ Off [W] H3 H6 ∧ H6 W = some (.lst (((List.range j).foldl (upd1 g i y) (nextN g T0 (rowsN g T0 k) i)).map oV)))
          ⟨by omega, by omega⟩ ⟨_, _, rfl, o4', e4'⟩ (fun j σ H6 hj hP => ?_) (fun σ H6 hP => ?_)
        rotate_left 1
        · obtain ⟨z7, z8, rfl, g1, g2⟩ := hP
          rw [Int.toNat_natCast] at g2
          rw [enx]
          exact ⟨_, _, _, _, rfl, g1, g2⟩
        obtain ⟨z7, z8, rfl, g1, g2⟩ := hP
        rw [Int.toNat_natCast] at hj
        have hp6 := g1.seqT (o3.seqT (f3.seqT hp))
        have efold : (List.range (j + 1)).foldl (upd1 g i y) (nextN g T0 (rowsN g T0 k) i) = upd1 g i y ((List.range j).foldl (upd1 g i y) (nextN g T0 (rowsN g T0 k) i)) j := by
          rw [List.range_succ, List.foldl_append]
          rfl
        rw [efold]
        have fl := fold1_len g i y (List.range j) (nextN g T0 (rowsN g T0 k) i)
        generalize (List.range j).foldl (upd1 g i y) (nextN g T0 (rowsN g T0 k) i) = row at *
        have esub : ((i : Nat) : Int) - ((j : Nat) : Int) = ((i - j : Nat) : Int) := by omega
        walk_at "go"
        rw [esub]
        refine g_ixT hp6 (gV_at (by omega)) ?_
        have ha := cl (i - j) (by omega)
        walk_at "go"
        refine g_ixL (.of g2) (oV_get (by omega)) ?_
        walk_at "go"
        refine ⟨rfl, ?_⟩
        have eset : (row.map oV).set (gAt g (i - j)) (.int (y + (j : Int))) = (row.set (gAt g (i - j)) (some (y + (j : Int)))).map oV := by rw [List.map_set]; rfl
        have hix : ixN (row.map oV).length ((gAt g (i - j) : Nat) : Int) = some (gAt g (i - j)) := by
          unfold ixN
          rw [if_pos (by omega), if_pos (by rw [List.length_map]; omega), Int.toNat_natCast]
        have oset : Off [W] H6 (upd H6 W (.lst ((row.map oV).set (gAt g (i - j)) (.int (y + (j : Int)))))) := .put (by simp) g2 trivial
        have eu : upd1 g i y row j = match rGet row (gAt g (i - j)) with | none => row.set (gAt g (i - j)) (some (y + j)) | some z => if z < y + j then row.set (gAt g (i - j)) (some (y + j)) else row := rfl
        rw [eu]
        cases hr0 : rGet row (gAt g (i - j)) with
        | none =>
          walk_at "go"
          refine g_setL g2 hix ?_
          refine ⟨_, _, rfl, g1.trans oset, ?_⟩
          rw [upd_same, eset]
        | some z =>
          have ne : ¬ oV (some z) = V.non := fun w => by cases w
          walk_at "go"
          refine br_F ne ?_
          walk_at "go"
          refine g_ixL (.of g2) (oV_get (by omega)) ?_
          rw [hr0]
          walk_at "go"
          refine SH.g_I0 (i := z) ?_
          walk_at "go"
          refine br_d (fun c => ?_) (fun c => ?_)
          · walk_at "go"
            refine g_setL g2 hix ?_
            refine ⟨_, _, rfl, g1.trans oset, ?_⟩
            rw [upd_same, eset]
            show some (HO.lst ((row.set (gAt g (i - j)) (some (y + (j : Int)))).map oV)) = some (.lst ((if z < y + j then row.set (gAt g (i - j)) (some (y + j)) else row).map oV))
            rw [if_pos c]
          · walk_at "go"
            refine ⟨_, _, rfl, g1, ?_⟩
            show H6 W = some (.lst ((if z < y + j then row.set (gAt g (i - j)) (some (y + j)) else row).map oV))
            rw [if_neg c]
            exact g2
    obtain ⟨y2, y6, y7, y8, rfl, o4, e4⟩ := hM
    have f14 := o4.at (by simpa using nWR) f13
    have hps : (ps.map V.ref).length ≤ 40 := by rw [List.length_map]; omega
    walk_at "go"
    rename_i H5 e5 o5
    have nWR' : W ∉ [R] := by simpa using nWR.symm
    refine ⟨_, _, _, _, _, _, ps ++ [W], rfl, by rw [e5, List.map_append]; rfl, ?_, ((f3.trans o3).mutA o4 hW0).mutA o5 hR0⟩
    rw [List.range_succ]
    refine paired_snocV (Paired.mapP f2 fun q k' z => ?_) (o5.at nWR' e4)
    have nq1 : q ∉ [W] := by simpa using ne_of_none z hW
    have nq2 : q ∉ [R] := fun w => by
      rw [List.mem_singleton.mp w, f1] at z
      have z' : ps.map V.ref = (rowsN g T0 k').map oV := by injection (Option.some.inj z)
      exact refs_ne pl z'
    exact o5.at nq2 (o4.at nq1 (o3.at nin_nil z))
end
end SH
end

section
/-! #### the walk's words -/
local macro_rules | `(tactic| walk_at "ne0") => `(tactic| first
  | assumption
  | (refine Ne.symm ?_; assumption))
local macro_rules | `(tactic| walk_at "ne") => `(tactic| first
  | assumption
  | (refine Ne.symm ?_; assumption)
  | (refine' L2.ne_of_none ?gx (by assumption); (case gx => walk_at "hp"))
  | (refine' Ne.symm (L2.ne_of_none ?gx (by assumption)); (case gx => walk_at "hp")))
local macro_rules | `(tactic| walk_at "hp") => `(tactic| first
  | assumption
  | exact L2.upd_same
  | (refine' SH.upd_new ?gh (by assumption); (case gh => walk_at "hp"))
  | (refine' (L2.upd_ne ?gn).trans ?gh; (case gn => walk_at "ne0"); (case gh => walk_at "hp"))
  | (refine' SH.Off.at (by assumption) ?gn ?gh; (case gn => walk_at "nin"); (case gh => walk_at "hp")))
local macro_rules | `(tactic| walk_at "nin") => `(tactic| first
  | exact SH.nin_nil
  | (refine SH.nin_cons ?_ ?_; (· walk_at "ne0"); (· walk_at "nin")))
local macro_rules | `(tactic| walk_at "sq") => `(tactic| first
  | assumption
  | (apply L2.SqL.of; (· walk_at "hp"))
  | (apply L2.SqT.of; (· walk_at "hp"))
  | (refine' SH.seqT_new ?gx (by assumption); (case gx => walk_at "sq"))
  | (refine' SH.seqL_new ?gx (by assumption); (case gx => walk_at "sq"))
  | (refine' SH.Off.seqT (by assumption) ?gx; (case gx => walk_at "sq"))
  | (refine' SH.Off.seqL (by assumption) ?gy ?gx; (case gx => walk_at "sq"); (case gy => walk_at "nin")))
local macro_rules | `(tactic| walk_at "kd") => `(tactic| first
  | assumption | exact SH.KdV.int _ | exact SH.KdV.bl _ | exact SH.KdV.str _ | exact SH.KdV.non
  | (apply SH.KdV.tup; (· walk_at "sq")) | (apply SH.KdV.lst; (· walk_at "sq")))
/-- a way that cannot be -/
local macro_rules | `(tactic| walk_at "no") => `(tactic| (exfalso; first | assumption | omega | contradiction | (simp_all; done)))
/-- one step -/
local macro_rules | `(tactic| walk_at "g1") => `(tactic| with_reducible first
  | refine SH.g_var (by with_unfolding_all rfl) ?_ | refine SH.g_c ?_ | refine SH.g_op ?_ | refine SH.g_un ?_ | refine SH.g_I0 ?_ | refine SH.g_U ?_
  | refine SH.g_eqI ?_ | refine SH.g_neI ?_ | refine SH.g_eqS ?_ | refine SH.g_neS ?_
  | refine SH.g_test ?_ | refine SH.g_B ?_ | refine SH.g_isB ?_ | refine SH.g_and ?_ | refine SH.g_or ?_ | refine SH.g_not ?_ | refine SH.g_andV ?_ | refine SH.g_orV ?_ | refine SH.g_notV ?_ | refine SH.g_ifE ?_ | refine SH.g_chain ?_
  | refine SH.g_nil ?_ | refine SH.g_cons ?_ | refine SH.g_tup ?_ | refine SH.g_lst ?_ | refine SH.g_call ?_ | refine SH.g_fld ?_ | refine SH.g_meth ?_ | refine SH.g_make ?_ | refine SH.g_cb ?_ | refine SH.g_bm ?_
  | refine SH.g_seq ?_ | refine SH.g_asg ?_ | refine SH.g_name ?_ | refine SH.g_drop ?_ | refine SH.g_ret ?_ | refine SH.g_retN ?_ | refine SH.g_next ?_ | refine SH.g_brk ?_ | refine SH.g_cnt ?_ | refine SH.g_ifs ?_ | refine SH.g_par ?_ | refine SH.g_par2 ?_ | refine SH.g_fldS ?_ | refine SH.g_raise ?_ | refine SH.g_rs ?_
  | refine SH.g_sub ?_ | refine SH.g_yes ?_ | refine SH.g_sl ?_ | refine SH.g_noPart ?_ | refine SH.g_part ?_ | refine SH.g_intO ?_ | refine SH.g_dget ?_ | refine SH.g_dput ?_ | refine SH.g_forR ?_ | refine SH.g_forL ?_ | refine SH.g_forT ?_ | refine SH.g_lcR ?_ | refine SH.g_lcL ?_ | refine SH.g_lcT ?_ | refine SH.g_gcons ?_ | refine SH.g_gnil ?_
  | refine SH.br_t ?_ | refine SH.br_f ?_
  | refine SH.g_int ?_ | refine SH.g_abs ?_ | refine SH.g_max2 ?_ | refine SH.g_min2 ?_)
local macro_rules | `(tactic| walk_at "g2") => `(tactic| first
  | walk_at "g1"
  | ((with_reducible refine' SH.g_isiInt ?ga ?gz); (case ga => walk_at "kd"))
  | ((with_reducible refine' SH.g_isiBool ?ga ?gz); (case ga => walk_at "kd"))
  | ((with_reducible refine' SH.g_isiStr ?ga ?gz); (case ga => walk_at "kd"))
  | ((with_reducible refine' SH.g_isiTup ?ga ?gz); (case ga => walk_at "kd"))
  | ((with_reducible refine' SH.g_ixT ?ga ?gb ?gz); (case ga => walk_at "sq"); (case gb => rfl))
  | ((with_reducible refine' SH.g_ixL ?ga ?gb ?gz); (case ga => walk_at "sq"); (case gb => first | rfl | (apply SH.atI_refs; assumption)))
  | ((with_reducible refine SH.br_F ?_ ?_); (· decide +kernel)) | ((with_reducible refine SH.br_T ?_ ?_); (· decide +kernel)) | ((with_reducible refine SH.br_NF ?_ ?_); (· decide +kernel)) | ((with_reducible refine SH.br_NT ?_ ?_); (· decide +kernel))
  | ((with_reducible refine' SH.g_gtup ?ga ?gb ?gz); (case ga => walk_at "sq"); (case gb => rfl))
  | ((with_reducible refine' SH.g_lenT ?ga ?gz); (case ga => walk_at "sq"))
  | ((with_reducible refine' SH.g_lenL ?ga ?gz); (case ga => walk_at "sq"))
  | ((with_reducible refine SH.g_mkT (SH.sz rfl) ?_); intro _ _)
  | ((with_reducible refine SH.g_mkL (SH.sz rfl) ?_); intro _ _)
  | ((with_reducible refine SH.g_dnew ?_); intro _ _)
  | ((with_reducible refine' SH.g_tupL ?ga ?gz); (case ga => walk_at "sq"); intro _ _)
  | ((with_reducible refine' SH.g_lstL ?ga ?gz); (case ga => walk_at "sq"); intro _ _)
  | ((with_reducible refine' SH.g_lstT ?ga ?gz); (case ga => walk_at "sq"); intro _ _)
  | ((with_reducible refine' SH.g_dgR ?ga ?gb ?gz); (case ga => walk_at "hp"); (case gb => walk_at "dv"))
  | ((with_reducible refine' SH.g_fldR ?ga ?gb ?gc ?gd ?gz); (case ga => walk_at "hp"); (case gb => walk_at "cl"); (case gc => walk_at "na"); (case gd => walk_at "fv"))
  | ((with_reducible refine' SH.g_insR ?ga ?gb ?gz); (case ga => walk_at "hp"); (case gb => walk_at "fn"))
  | ((with_reducible refine' SH.g_setL ?ga ?gb ?gz); (case ga => walk_at "hp"); (case gb => rfl))
  | ((with_reducible refine SH.g_I ?_ ?_); (· walk_at "ci"))
  | ((with_reducible refine' SH.g_slL ?ga ?gz); (case ga => walk_at "sq"); intro _ _)
  | ((with_reducible refine' SH.g_cat ?ga ?gb ?gc ?gz); (case ga => walk_at "hp"); (case gb => walk_at "hp"); (case gc => walk_at "ls"); intro _ _))
/-- the side conditions of numbers: a divisor, a factor -/
local macro_rules | `(tactic| walk_at "ci") => `(tactic| first
  | (show _ ≠ _; omega) | (show _ < _; omega) | (constructor <;> omega) | (refine Or.inr ⟨?_, ?_⟩ <;> (show _ < _; omega)) | (refine Or.inl ⟨?_, ?_⟩ <;> (show _ < _; omega)) | (refine ⟨?_, ?_, ?_⟩ <;> decide))
local macro_rules | `(tactic| walk_at "ls") => `(tactic| first | (show _ ≤ _; exact Nat.le_trans (by assumption) (by decide)) | (show _ ≤ _; exact Nat.le_trans (by simp; omega) (by decide : 1000 ≤ sizeLine)))
local macro_rules | `(tactic| walk_at "dv") => `(tactic| rfl)
local macro_rules | `(tactic| walk_at "fv") => `(tactic| rfl)
local macro_rules | `(tactic| walk_at "fn") => `(tactic| rfl)
local macro_rules | `(tactic| walk_at "cl") => `(tactic| assumption)
local macro_rules | `(tactic| walk_at "na") => `(tactic| assumption)
local macro_rules | `(tactic| walk_at "go") => `(tactic| repeat walk_at "g2")
/-- a way is split -/
local macro_rules | `(tactic| walk_at "br") => `(tactic| with_reducible first
  | refine SH.br_d (fun _ => ?_) (fun _ => ?_) | refine SH.br_nd (fun _ => ?_) (fun _ => ?_) | refine SH.br_b (fun _ => ?_) (fun _ => ?_))
/-- all ways -/
local macro_rules | `(tactic| walk_at "all") => `(tactic| repeat' first | walk_at "g2" | (walk_at "br" <;> try (walk_at "no")))
/-- a truth value is the other -/
local macro_rules | `(tactic| walk_at "bq") => `(tactic| first | rfl | (simp_all; done) | (simp_all; omega) | (simp only [decide_eq_true_eq, decide_eq_false_iff_not, Bool.and_eq_true, Bool.or_eq_true] at *; omega))
/-- what was tracked is as it was -/
local macro_rules | `(tactic| walk_at "of") => `(tactic| first
  | assumption
  | exact SH.Off.refl _ _
  | (refine' SH.Off.new2 ?gx (by assumption); (case gx => walk_at "of"))
  | (refine' SH.Off.mut ?gx (by assumption); (case gx => walk_at "of"))
  | (refine' SH.Off.trans' ?gx (by assumption) ?gy; (case gy => (intro _ h; (first | exact h | (simp at h; done) | (simp at h ⊢; simp [h]; done)))); (case gx => walk_at "of")))
/-- kinds; parts of tuples; stars -/
local macro_rules | `(tactic| walk_at "g2") => `(tactic| first
  | (with_reducible first | refine SH.br_ntt ?_ | refine SH.br_ntf ?_ | refine SH.br_k ?_ | refine SH.br_nk ?_ | refine SH.g_star ?_ | refine SH.g_forR2 ?_ | refine SH.g_lcZ ?_ | refine SH.g_enL ?_)
  | ((with_reducible refine' SH.g_slA ?ga ?gz); (case ga => walk_at "sq"); intro _ _ _ _)
  | ((with_reducible refine' SH.g_app' ?ga ?gb ?gz); (case ga => walk_at "hp"); (case gb => walk_at "lt"); intro _ _ _)
  | ((with_reducible refine' SH.g_bml ?ga ?gz); (case ga => walk_at "sq"))
  | ((with_reducible refine' SH.g_popF ?ga ?gz); (case ga => walk_at "hp"); intro _ _ _)
  | (with_reducible first | refine SH.g_pnil ?_ | refine SH.g_pcons ?_ | (refine SH.g_disp ?_; intro _ _))
  | ((with_reducible refine' SH.g_kw ?gz))
  | ((with_reducible refine SH.g_kwR rfl ?_)))
local macro_rules | `(tactic| walk_at "lt") => `(tactic| (rw [PySem.sizeLine_eq]; omega))
namespace SH
open PySem PySem.Spec PyProof.Rows L2
def RowsA (H : Hp) (R : Addr) (g : List Nat) (T : Nat) : Prop := ∃ ps : List Addr, H R = some (.lst (ps.map V.ref)) ∧ Paired (fun (q : Addr) (k : Nat) => H q = some (.lst ((rowsN g T k).map oV))) ps (List.range (T + 2))
theorem RowsA.off {S : List Addr} {H H' : Hp} {R : Addr} {g : List Nat} {T : Nat} (h : RowsA H R g T) (o : Off [] H H') : RowsA H' R g T := by
  obtain ⟨ps, h1, h2⟩ := h
  exact ⟨ps, o.at nin_nil h1, Paired.mapP h2 fun _ _ z => o.at nin_nil z⟩
theorem RowsA.len {H : Hp} {R : Addr} {g : List Nat} {T : Nat} (h : RowsA H R g T) : ∃ xs, H R = some (.lst xs) ∧ xs.length = T + 2 := by
  obtain ⟨ps, h1, h2⟩ := h
  have := Paired.length h2
  rw [List.length_range] at this
  exact ⟨_, h1, by rw [List.length_map]; exact this⟩
theorem RowsA.get {H : Hp} {R : Addr} {g : List Nat} {T k : Nat} (h : RowsA H R g T) (hk : k < T + 2) : ∃ xs q, H R = some (.lst xs) ∧ atI xs ((k : Nat) : Int) = some (.ref q) ∧ H q = some (.lst ((rowsN g T k).map oV)) := by
  obtain ⟨ps, h1, h2⟩ := h
  obtain ⟨q, h3, h4⟩ := paired_get'' h2 (i := k) (y := k) (by rw [List.getElem?_range hk])
  exact ⟨_, q, h1, atI_refs h3, h4⟩
def spWorst (K : PySem.W.Frag) : Sp := fun vs H Q _ => ∃ R g T v, vs = [.ref R, .int ((v : Nat) : Int)] ∧ RowsA H R g T ∧ v ≤ T ∧ T ≤ 30 ∧ (∀ l, l ≤ T → gAt g l ≤ T) ∧ ∀ u H', oP K H' u (worstM (rowsN g T) (T + 1) v) → Off [] H H' → Q u H'
def spBest (K : PySem.W.Frag) : Sp := fun vs H Q _ => ∃ p g T, vs = [.ref p, .int ((T : Nat) : Int)] ∧ SqT K H p (gV g) ∧ GrOk g ∧ T < g.length ∧ (∀ l, l ≤ T → gAt g l ≤ T) ∧ ∀ r H', H' r = some (.tup [.int (bestM g T).1, .int (bestM g T).2]) → Off [] H H' → Q (.ref r) H'
theorem rows_sq {g : List Nat} {T k v : Nat} {x : Int} (cl : ∀ l, l ≤ T → gAt g l ≤ T) (hT : T ≤ 30) (hk : k ≤ T + 1) (h : rGet (rowsN g T k) v = some x) : 0 ≤ x ∧ x ≤ 930 := by
  obtain ⟨h1, h2⟩ := rowsN_bd cl h
  have : k * T ≤ 31 * 30 := Nat.mul_le_mul (by omega) hT
  omega
theorem worst_bd {g : List Nat} {T v m : Nat} {d : Int} {b : Int × Int} (cl : ∀ l, l ≤ T → gAt g l ≤ T) (hT : T ≤ 30) (hm : m ≤ T + 1) (hd : 0 ≤ d ∧ d ≤ 930) (h : worstN (rowsN g T) (T + 1) v d m = some b) : (-1000 ≤ b.1 ∧ b.1 ≤ 1000) ∧ 0 < b.2 ∧ b.2 ≤ 31 := by
  have w := worstN_ok (row := rowsN g T) (n := T + 1) (v := v) (d := d) m hm
  rw [h] at w
  obtain ⟨k, y, h1, h2, h3⟩ := w.at_
  have := rows_sq cl hT (by omega) h2
  rw [h3]
  refine ⟨⟨?_, ?_⟩, ?_, ?_⟩
  · show -1000 ≤ d - y; omega
  · show d - y ≤ 1000; omega
  · show 0 < ((T + 1 - k : Nat) : Int); omega
  · show ((T + 1 - k : Nat) : Int) ≤ 31; omega
section
variable {P : Program} {w : World} {K : PySem.W.Frag} {mg : Str → Option Value} {base : Heap}
theorem ok_worst_mean (T : Txt P w K mg) : DefOk P w K mg base "worst_mean" 2 ["rows", "stock"] (spWorst K) := by
  refine T.d_worst_mean.ok sc_worst_mean (fun _ _ _ _ _ _ us hl => match us, hl with | [_, _], _ => rfl) (fun vs H Q E h => ?_) (fun f cdv A outer s H vs Q E hr h => ?_)
  · obtain ⟨R, g, T0, v, rfl, _⟩ := h
    rfl
  · obtain ⟨R, g, T0, v, rfl, hR, hv, hT, cl, q⟩ := h
    have B := T.blt
    have hu := hu_of hr
    have G_lesser := ok_lesser (base := base) T
    refine ⟨_, (pss_cons (ps_par (i := 2) (j := 3) (by rfl) sc_worst_mean.nd rfl rfl (by decide) rfl rfl (pa_cons (pe_op op_sub (pe_callB (c_lenK (K := K) rfl) (by rfl) B.b_len PySem.boot_len (pa_cons (pv 0) pa_nil)) pe_int) (pa_cons pe_non pa_nil)) (by rfl))
  (pss_cons (ps_if (pt_cmpR op_isN (pe_ix (ix_listK (K := K) rfl) (pe_ix (ix_listK (K := K) rfl) (pv 0) (pv 2) (fun _ _ => rfl)) (pv 1) (fun _ _ => rfl)) pe_non (nomark _))
    (pss_one (ps_ret pe_non))
    pss_nil)
  (pss_cons (ps_for (passes_of rfl) rfl (pi_range1 rfl B.b_range (pa_cons (pv 2) pa_nil)) (pg_name (i := 4) sc_worst_mean.nd rfl (by first | exact Or.inl rfl | exact Or.inr rfl))
    (pss_one (ps_if (pt_cmpR op_notN (pe_ix (ix_listK (K := K) rfl) (pe_ix (ix_listK (K := K) rfl) (pv 0) (pv 4) (fun _ _ => rfl)) (pv 1) (fun _ _ => rfl)) pe_non (nomark _))
    (pss_one (ps_set (i := 3) sc_worst_mean.nd rfl (by first | exact Or.inl rfl | exact Or.inr rfl) (pe_df G_lesser (hr.mono (by decide)) (L2N.passes_call (L2N.takes_of rfl rfl rfl rfl) fun _ _ _ _ z => z) (pa_cons (pe_tup (pa_cons (pe_op op_sub (pe_ix (ix_listK (K := K) rfl) (pe_ix (ix_listK (K := K) rfl) (pv 0) (pv 2) (fun _ _ => rfl)) (pv 1) (fun _ _ => rfl)) (pe_ix (ix_listK (K := K) rfl) (pe_ix (ix_listK (K := K) rfl) (pv 0) (pv 4) (fun _ _ => rfl)) (pv 1) (fun _ _ => rfl))) (pa_cons (pe_op op_sub (pv 2) (pv 4)) pa_nil))) (pa_cons (pv 3) pa_nil)))))
    pss_nil)))
  (pss_one (ps_ret (pv 3)))))), ?_⟩
    obtain ⟨xs, hx1, hx2⟩ := hR.len
    have elast : ((xs.length : Nat) : Int) - 1 = ((T0 + 1 : Nat) : Int) := by omega
    obtain ⟨xs', q1, g1, g2, g3⟩ := hR.get (k := T0 + 1) (by omega)
    rw [hx1] at g1
    cases g1
    have l1 := rowsN_len g T0 (T0 + 1)
    walk_at "go"
    rw [elast]
    refine g_ixL (.of hx1) g2 ?_
    walk_at "go"
    refine g_ixL (.of g3) (oV_get (by omega)) ?_
    walk_at "go"
    refine ⟨rfl, ?_⟩
    unfold worstM at q
    cases hd : rGet (rowsN g T0 (T0 + 1)) v with
    | none =>
      rw [hd] at q
      walk_at "go"
      exact q _ H rfl (.refl _ _)
    | some d =>
      rw [hd] at q
      have bd := rows_sq cl hT (Nat.le_refl _) hd
      walk_at "go"
      refine br_F (fun w : oV (some d) = V.non => by cases w) ?_
      walk_at "go"
      refine forR_mk (fun k σ H1 => ∃ vf x4, σ = [some (.ref R), some (.int (v : Int)), some (.int ((T0 + 1 : Nat) : Int)), some vf, x4] ∧ oP K H1 vf (worstN (rowsN g T0) (T0 + 1) v d k) ∧ Off [] H H1) ⟨by omega, by omega⟩ ⟨_, _, rfl, rfl, .refl _ _⟩ (fun k σ H1 hk hP => ?_) (fun σ H1 hP => ?_)
      rotate_left 1
      · obtain ⟨vf, x4, rfl, f1, f2⟩ := hP
        rw [Int.toNat_natCast] at f1
        walk_at "go"
        exact q vf H1 f1 f2
      obtain ⟨vf, x4, rfl, f1, f2⟩ := hP
      rw [Int.toNat_natCast] at hk
      obtain ⟨xk, qk, k1, k2, k3⟩ := (hR.off (S := []) f2).get (k := k) (by omega)
      have lk := rowsN_len g T0 k
      have k1' := f2.at nin_nil hx1
      rw [k1'] at k1
      cases k1
      have g3' := f2.at nin_nil g3
      have ew : worstN (rowsN g T0) (T0 + 1) v d (k + 1) = match rGet (rowsN g T0 k) v with | some y => some (lesserP (d - y, ((T0 + 1 - k : Nat) : Int)) (worstN (rowsN g T0) (T0 + 1) v d k)) | none => worstN (rowsN g T0) (T0 + 1) v d k := rfl
      rw [ew]
      walk_at "go"
      refine g_ixL (.of k1') k2 ?_
      walk_at "go"
      refine g_ixL (.of k3) (oV_get (by omega)) ?_
      walk_at "go"
      refine ⟨rfl, ?_⟩
      cases hy : rGet (rowsN g T0 k) v with
      | none =>
        walk_at "go"
        exact ⟨_, _, rfl, f1, f2⟩
      | some y =>
        have by_ := rows_sq cl hT (by omega) hy
        walk_at "go"
        refine br_NF (fun w : oV (some y) = V.non => by cases w) ?_
        walk_at "go"
        refine g_ixL (.of k1') g2 ?_
        walk_at "go"
        refine g_ixL (.of g3') (oV_get (by omega)) ?_
        walk_at "go"
        refine g_ixL (.of k1') k2 ?_
        walk_at "go"
        refine g_ixL (.of k3) (oV_get (by omega)) ?_
        rw [hd, hy]
        refine SH.g_I0 (i := d) (j := y) ?_
        walk_at "go"
        rename_i pt hpt
        have oT : Off [] H1 (upd H1 pt (.tup [.int (d - y), .int (((T0 + 1 : Nat) : Int) - (k : Int))])) := .new hpt
        have ek : ((T0 + 1 : Nat) : Int) - (k : Int) = ((T0 + 1 - k : Nat) : Int) := by omega
        rw [ek] at oT ⊢
        refine ⟨pt, (d - y, ((T0 + 1 - k : Nat) : Int)), vf, _, rfl, .of upd_same, f1.off oT, ⟨by show -100000 ≤ d - y; omega, by show d - y ≤ 100000; omega⟩, fun b hb => ?_, fun u hu => ?_⟩
        · have := (worst_bd cl hT (by omega) bd hb).1
          omega
        · walk_at "go"
          exact ⟨_, _, rfl, hu, f2.trans oT⟩
theorem ok_best_mean (T : Txt P w K mg) : DefOk P w K mg base "best_mean" 3 ["growth", "last"] (spBest K) := by
  refine T.d_best_mean.ok sc_best_mean (fun _ _ _ _ _ _ us hl => match us, hl with | [_, _], _ => rfl) (fun vs H Q E h => ?_) (fun f cdv A outer s H vs Q E hr h => ?_)
  · obtain ⟨p, g, T0, rfl, _⟩ := h
    rfl
  · obtain ⟨p, g, T0, rfl, hp, G, hT, cl, q⟩ := h
    have B := T.blt
    have hu := hu_of hr
    have G_divisor := ok_divisor (base := base) T
    have G_walks_of := ok_walks_of (base := base) T
    have G_worst_mean := ok_worst_mean (base := base) T
    refine ⟨_, (pss_cons (ps_par (i := 2) (j := 3) (by rfl) sc_best_mean.nd rfl rfl (by decide) rfl rfl (pa_cons (pe_df G_walks_of (hr.mono (by decide)) (L2N.passes_call (L2N.takes_of rfl rfl rfl rfl) fun _ _ _ _ z => z) (pa_cons (pv 0) (pa_cons (pv 1) pa_nil))) (pa_cons (pe_tup (pa_cons pe_int (pa_cons pe_int pa_nil))) pa_nil)) (by rfl))
  (pss_cut (ps_for (passes_of rfl) rfl (pi_range1 rfl B.b_range (pa_cons (pe_op op_add (pv 1) pe_int) pa_nil)) (pg_name (i := 4) sc_best_mean.nd rfl (by first | exact Or.inl rfl | exact Or.inr rfl))
    (pss_cons (ps_set (i := 5) sc_best_mean.nd rfl (by first | exact Or.inl rfl | exact Or.inr rfl) (pe_df G_worst_mean (hr.mono (by decide)) (L2N.passes_call (L2N.takes_of rfl rfl rfl rfl) fun _ _ _ _ z => z) (pa_cons (pv 2) (pa_cons (pv 4) pa_nil))))
  (pss_one (ps_if (PW.pt (pw_and (pt_cmpR op_notN (pv 5) pe_non (nomark _)) (pw_and1 (pt_cmpR op_gt (pe_op op_mul (pe_ix (ix_tupK (K := K) rfl) (pv 5) pe_int (fun _ _ => rfl)) (pe_ix (ix_tupK (K := K) rfl) (pv 3) pe_int (fun _ _ => rfl))) (pe_op op_mul (pe_ix (ix_tupK (K := K) rfl) (pv 3) pe_int (fun _ _ => rfl)) (pe_ix (ix_tupK (K := K) rfl) (pv 5) pe_int (fun _ _ => rfl))) (nomark _)))))
    (pss_one (ps_set (i := 3) sc_best_mean.nd rfl (by first | exact Or.inl rfl | exact Or.inr rfl) (pv 5)))
    pss_nil))))
  (pss_cons (ps_set (i := 6) sc_best_mean.nd rfl (by first | exact Or.inl rfl | exact Or.inr rfl) (pe_df G_divisor (hr.mono (by decide)) (L2N.passes_call (L2N.takes_of rfl rfl rfl rfl) fun _ _ _ _ z => z) (pa_cons (pe_ix (ix_tupK (K := K) rfl) (pv 3) pe_int (fun _ _ => rfl)) (pa_cons (pe_ix (ix_tupK (K := K) rfl) (pv 3) pe_int (fun _ _ => rfl)) pa_nil))))
  (pss_one (ps_ret (pe_tup (pa_cons (pe_op op_fdivN (pe_ix (ix_tupK (K := K) rfl) (pv 3) pe_int (fun _ _ => rfl)) (pv 6)) (pa_cons (pe_op op_fdivN (pe_ix (ix_tupK (K := K) rfl) (pv 3) pe_int (fun _ _ => rfl)) (pv 6)) pa_nil)))))))), ?_⟩
    have n1 := G.n1
    have eT : ((T0 : Nat) : Int) + 1 = ((T0 + 1 : Nat) : Int) := by omega
    walk_at "go"
    refine ⟨p, g, T0, rfl, hp, G, hT, cl, fun R H1 ps e1 e2 o1 => ?_⟩
    have hR : RowsA H1 R g T0 := ⟨ps, e1, e2⟩
    walk_at "go"
    rename_i p0 hp0
    have o2 : Off [] H1 (upd H1 p0 (.tup [.int 0, .int 1])) := .new hp0
    have bst := fun v => bestN_ok (row := rowsN g T0) (n := T0 + 1) v
    refine g_cut (fun σ H3 => ∃ b4 x4 x5, σ = [some (.ref p), some (.int (T0 : Int)), some (.ref R), some (.ref b4), x4, x5, none] ∧ SqT K H3 b4 [.int (bestN (rowsN g T0) (T0 + 1) (T0 + 1)).1, .int (bestN (rowsN g T0) (T0 + 1) (T0 + 1)).2] ∧ Off [] H H3) ?_ (fun σ H3 hM => ?_)
    · walk_at "go"
      rw [eT]
      refine forR_mk (fun v σ H3 => ∃ b4 x4 x5, σ = [some (.ref p), some (.int (T0 : Int)), some (.ref R), some (.ref b4), x4, x5, none] ∧ SqT K H3 b4 [.int (bestN (rowsN g T0) (T0 + 1) v).1, .int (bestN (rowsN g T0) (T0 + 1) v).2] ∧ Off [] H1 H3) ⟨by omega, by omega⟩
        ⟨_, _, _, rfl, .of upd_same, o2⟩ (fun v σ H3 hv hP => ?_) (fun σ H3 hP => ?_)
      rotate_left 1
      · obtain ⟨b4, x4, x5, rfl, f1, f2⟩ := hP
        rw [Int.toNat_natCast] at f1
        exact ⟨_, _, _, rfl, f1, o1.trans f2⟩
      obtain ⟨b4, x4, x5, rfl, f1, f2⟩ := hP
      rw [Int.toNat_natCast] at hv
      have eb : bestN (rowsN g T0) (T0 + 1) (v + 1) = match worstM (rowsN g T0) (T0 + 1) v with | some f => if f.1 * (bestN (rowsN g T0) (T0 + 1) v).2 > (bestN (rowsN g T0) (T0 + 1) v).1 * f.2 then f else bestN (rowsN g T0) (T0 + 1) v | none => bestN (rowsN g T0) (T0 + 1) v := rfl
      rw [eb]
      have bv := bst v
      have d0 := bv.d0
      have d1 := bv.d1
      generalize bestN (rowsN g T0) (T0 + 1) v = b at *
      walk_at "go"
      refine ⟨R, g, T0, v, rfl, hR.off (S := []) f2, by omega, by omega, cl, fun u H4 hu o4 => ?_⟩
      have f14 := o4.seqT f1
      walk_at "go"
      refine ⟨rfl, ?_⟩
      cases hw : worstM (rowsN g T0) (T0 + 1) v with
      | none =>
        rw [hw] at hu
        cases (show u = .non from hu)
        walk_at "go"
        exact ⟨_, _, _, rfl, f14, f2.trans o4⟩
      | some f =>
        rw [hw] at hu
        obtain ⟨qf, rfl, hqf⟩ := hu
        obtain ⟨d, hd, wor⟩ := worstM_ok hw
        have bd := rows_sq cl (show T0 ≤ 30 by omega) (Nat.le_refl _) hd
        have hw' : worstN (rowsN g T0) (T0 + 1) v d (T0 + 1) = some f := by
          unfold worstM at hw
          rw [hd] at hw
          exact hw
        have fb := worst_bd cl (show T0 ≤ 30 by omega) (Nat.le_refl _) bd hw'
        obtain ⟨⟨fb1, fb2⟩, fb3, fb4⟩ := fb
        walk_at "go"
        refine br_NF (fun w : V.ref qf = V.non => by cases w) ?_
        walk_at "go"
        refine br_d (fun c => ?_) (fun c => ?_)
        · walk_at "go"
          refine ⟨qf, _, _, rfl, ?_, f2.trans o4⟩
          show SqT K H4 qf [.int (if f.1 * b.2 > b.1 * f.2 then f else b).1, .int (if f.1 * b.2 > b.1 * f.2 then f else b).2]
          rw [if_pos (by omega)]
          exact hqf
        · walk_at "go"
          refine ⟨b4, _, _, rfl, ?_, f2.trans o4⟩
          show SqT K H4 b4 [.int (if f.1 * b.2 > b.1 * f.2 then f else b).1, .int (if f.1 * b.2 > b.1 * f.2 then f else b).2]
          rw [if_neg (by omega)]
          exact f14
    obtain ⟨b4, x4, x5, rfl, f1, f2⟩ := hM
    have bv := bst (T0 + 1)
    have n0 := bv.n0
    have d0 := bv.d0
    have d1 := bv.d1
    unfold bestM at q
    generalize bestN (rowsN g T0) (T0 + 1) (T0 + 1) = b at *
    obtain ⟨N, D⟩ := b
    obtain ⟨n, en⟩ := Int.eq_ofNat_of_zero_le (show 0 ≤ N from n0)
    obtain ⟨m, em⟩ := Int.eq_ofNat_of_zero_le (show 0 ≤ D from Int.le_of_lt d0)
    subst en em
    have d0' : (0 : Int) < (m : Int) := d0
    have d1' : (m : Int) ≤ 1 + ((T0 + 1 : Nat) : Int) := d1
    have f1' : SqT K H3 b4 [.int (n : Int), .int (m : Int)] := f1
    have q' : ∀ r H', H' r = some (.tup [.int ((n : Int) / ((Nat.gcd n m : Nat) : Int)), .int ((m : Int) / ((Nat.gcd n m : Nat) : Int))]) → Off [] H H' → Q (.ref r) H' := q
    have g0 : 0 < Nat.gcd n m := Nat.gcd_pos_of_pos_right n (by omega)
    have g1 : Nat.gcd n m ≤ m := Nat.le_of_dvd (by omega) (Nat.gcd_dvd_right n m)
    have f1a := Int.fdiv_eq_ediv_of_nonneg (n : Int) (show (0 : Int) ≤ ((Nat.gcd n m : Nat) : Int) by omega)
    have f1b := Int.fdiv_eq_ediv_of_nonneg (m : Int) (show (0 : Int) ≤ ((Nat.gcd n m : Nat) : Int) by omega)
    walk_at "go"
    refine ⟨n, m, rfl, ?_⟩
    walk_at "go"
    rw [f1a, f1b]
    rename_i pr hpr
    exact q' pr _ upd_same (f2.new2 hpr)
def spFEv (K : PySem.W.Frag) : Sp := spGS K (spFE K)
theorem okL_for_ever (T : Txt P w K mg) : DefL P w K mg base "for_ever" 5 ["growth", "start"] (spFEv K) := by
  refine T.d_for_ever.okL sc_for_ever (fun _ _ _ _ _ _ us hl => match us, hl with | [_, _], _ => rfl) (fun vs H Q E h => ?_) (fun f cdv A outer s H vs Q E hr h => ?_)
  · obtain ⟨v, u, rfl, _⟩ := h
    rfl
  · obtain ⟨v, u, rfl, h⟩ := h
    have B := T.blt
    have hu := hu_of hr
    have G_demand_stock := ok_demand_stock (base := base) T
    have G_best_mean := ok_best_mean (base := base) T
    have G_top_of := ok_top_of (base := base) T
    refine ⟨_, (pss_cons (ps_expr (pe_df G_demand_stock (hr.mono (by decide)) (L2N.passes_call (L2N.takes_of rfl rfl rfl rfl) fun _ _ _ _ z => z) (pa_cons (pv 0) (pa_cons (pv 1) pa_nil))))
  (pss_one (ps_ret (pe_df G_best_mean (hr.mono (by decide)) (L2N.passes_call (L2N.takes_of rfl rfl rfl rfl) fun _ _ _ _ z => z) (pa_cons (pv 0) (pa_cons (pe_df G_top_of (hr.mono (by decide)) (L2N.passes_call (L2N.takes_of rfl rfl rfl rfl) fun _ _ _ _ z => z) (pa_cons (pv 0) (pa_cons (pv 1) pa_nil))) pa_nil)))))), ?_⟩
    rcases h with ⟨p, g, s, ha, q⟩ | ⟨nm, hb, q⟩
    · walk_at "go"
      refine ⟨v, u, rfl, .inl ⟨p, g, s, ha, fun H1 o1 => ?_⟩⟩
      obtain ⟨rfl, rfl, hp, G, hs⟩ := ha
      walk_at "go"
      refine ⟨p, g, s, rfl, o1.seqT hp, G, hs, ?_⟩
      walk_at "go"
      have it := G.isTop hs
      exact ⟨p, g, _, rfl, o1.seqT hp, G, it.lt, it.cl, fun r H2 e2 o2 => q H2 r e2 (o1.trans o2)⟩
    · walk_at "go"
      exact ⟨v, u, rfl, .inr ⟨nm, hb, fun H1 o1 => q H1 o1⟩⟩
theorem ok_for_ever (T : Txt P w K mg) : DefOk P w K mg base "for_ever" 5 ["growth", "start"] (spFEv K) := (okL_for_ever T).ok
end
end SH
end

section
/-! #### the walk's words -/
local macro_rules | `(tactic| walk_at "ne0") => `(tactic| first
  | assumption
  | (refine Ne.symm ?_; assumption))
local macro_rules | `(tactic| walk_at "ne") => `(tactic| first
  | assumption
  | (refine Ne.symm ?_; assumption)
  | (refine' L2.ne_of_none ?gx (by assumption); (case gx => walk_at "hp"))
  | (refine' Ne.symm (L2.ne_of_none ?gx (by assumption)); (case gx => walk_at "hp")))
local macro_rules | `(tactic| walk_at "hp") => `(tactic| first
  | assumption
  | exact L2.upd_same
  | (refine' SH.upd_new ?gh (by assumption); (case gh => walk_at "hp"))
  | (refine' (L2.upd_ne ?gn).trans ?gh; (case gn => walk_at "ne0"); (case gh => walk_at "hp"))
  | (refine' SH.Off.at (by assumption) ?gn ?gh; (case gn => walk_at "nin"); (case gh => walk_at "hp")))
local macro_rules | `(tactic| walk_at "nin") => `(tactic| first
  | exact SH.nin_nil
  | (refine SH.nin_cons ?_ ?_; (· walk_at "ne0"); (· walk_at "nin")))
local macro_rules | `(tactic| walk_at "sq") => `(tactic| first
  | assumption
  | (apply L2.SqL.of; (· walk_at "hp"))
  | (apply L2.SqT.of; (· walk_at "hp"))
  | (refine' SH.seqT_new ?gx (by assumption); (case gx => walk_at "sq"))
  | (refine' SH.seqL_new ?gx (by assumption); (case gx => walk_at "sq"))
  | (refine' SH.Off.seqT (by assumption) ?gx; (case gx => walk_at "sq"))
  | (refine' SH.Off.seqL (by assumption) ?gy ?gx; (case gx => walk_at "sq"); (case gy => walk_at "nin")))
local macro_rules | `(tactic| walk_at "kd") => `(tactic| first
  | assumption | exact SH.KdV.int _ | exact SH.KdV.bl _ | exact SH.KdV.str _ | exact SH.KdV.non
  | (apply SH.KdV.tup; (· walk_at "sq")) | (apply SH.KdV.lst; (· walk_at "sq")))
/-- a way that cannot be -/
local macro_rules | `(tactic| walk_at "no") => `(tactic| (exfalso; first | assumption | omega | contradiction | (simp_all; done)))
/-- one step -/
local macro_rules | `(tactic| walk_at "g1") => `(tactic| with_reducible first
  | refine SH.g_var (by with_unfolding_all rfl) ?_ | refine SH.g_c ?_ | refine SH.g_op ?_ | refine SH.g_un ?_ | refine SH.g_I0 ?_ | refine SH.g_U ?_
  | refine SH.g_eqI ?_ | refine SH.g_neI ?_ | refine SH.g_eqS ?_ | refine SH.g_neS ?_
  | refine SH.g_test ?_ | refine SH.g_B ?_ | refine SH.g_isB ?_ | refine SH.g_and ?_ | refine SH.g_or ?_ | refine SH.g_not ?_ | refine SH.g_andV ?_ | refine SH.g_orV ?_ | refine SH.g_notV ?_ | refine SH.g_ifE ?_ | refine SH.g_chain ?_
  | refine SH.g_nil ?_ | refine SH.g_cons ?_ | refine SH.g_tup ?_ | refine SH.g_lst ?_ | refine SH.g_call ?_ | refine SH.g_fld ?_ | refine SH.g_meth ?_ | refine SH.g_make ?_ | refine SH.g_cb ?_ | refine SH.g_bm ?_
  | refine SH.g_seq ?_ | refine SH.g_asg ?_ | refine SH.g_name ?_ | refine SH.g_drop ?_ | refine SH.g_ret ?_ | refine SH.g_retN ?_ | refine SH.g_next ?_ | refine SH.g_brk ?_ | refine SH.g_cnt ?_ | refine SH.g_ifs ?_ | refine SH.g_par ?_ | refine SH.g_par2 ?_ | refine SH.g_fldS ?_ | refine SH.g_raise ?_ | refine SH.g_rs ?_
  | refine SH.g_sub ?_ | refine SH.g_yes ?_ | refine SH.g_sl ?_ | refine SH.g_noPart ?_ | refine SH.g_part ?_ | refine SH.g_intO ?_ | refine SH.g_dget ?_ | refine SH.g_dput ?_ | refine SH.g_forR ?_ | refine SH.g_forL ?_ | refine SH.g_forT ?_ | refine SH.g_lcR ?_ | refine SH.g_lcL ?_ | refine SH.g_lcT ?_ | refine SH.g_gcons ?_ | refine SH.g_gnil ?_
  | refine SH.br_t ?_ | refine SH.br_f ?_
  | refine SH.g_int ?_ | refine SH.g_abs ?_ | refine SH.g_max2 ?_ | refine SH.g_min2 ?_)
local macro_rules | `(tactic| walk_at "g2") => `(tactic| first
  | walk_at "g1"
  | ((with_reducible refine' SH.g_isiInt ?ga ?gz); (case ga => walk_at "kd"))
  | ((with_reducible refine' SH.g_isiBool ?ga ?gz); (case ga => walk_at "kd"))
  | ((with_reducible refine' SH.g_isiStr ?ga ?gz); (case ga => walk_at "kd"))
  | ((with_reducible refine' SH.g_isiTup ?ga ?gz); (case ga => walk_at "kd"))
  | ((with_reducible refine' SH.g_ixT ?ga ?gb ?gz); (case ga => walk_at "sq"); (case gb => rfl))
  | ((with_reducible refine' SH.g_ixL ?ga ?gb ?gz); (case ga => walk_at "sq"); (case gb => first | rfl | (apply SH.atI_refs; assumption)))
  | ((with_reducible refine SH.br_F ?_ ?_); (· decide +kernel)) | ((with_reducible refine SH.br_T ?_ ?_); (· decide +kernel)) | ((with_reducible refine SH.br_NF ?_ ?_); (· decide +kernel)) | ((with_reducible refine SH.br_NT ?_ ?_); (· decide +kernel))
  | ((with_reducible refine' SH.g_gtup ?ga ?gb ?gz); (case ga => walk_at "sq"); (case gb => rfl))
  | ((with_reducible refine' SH.g_lenT ?ga ?gz); (case ga => walk_at "sq"))
  | ((with_reducible refine' SH.g_lenL ?ga ?gz); (case ga => walk_at "sq"))
  | ((with_reducible refine SH.g_mkT (SH.sz rfl) ?_); intro _ _)
  | ((with_reducible refine SH.g_mkL (SH.sz rfl) ?_); intro _ _)
  | ((with_reducible refine SH.g_dnew ?_); intro _ _)
  | ((with_reducible refine' SH.g_tupL ?ga ?gz); (case ga => walk_at "sq"); intro _ _)
  | ((with_reducible refine' SH.g_lstL ?ga ?gz); (case ga => walk_at "sq"); intro _ _)
  | ((with_reducible refine' SH.g_lstT ?ga ?gz); (case ga => walk_at "sq"); intro _ _)
  | ((with_reducible refine' SH.g_dgR ?ga ?gb ?gz); (case ga => walk_at "hp"); (case gb => walk_at "dv"))
  | ((with_reducible refine' SH.g_fldR ?ga ?gb ?gc ?gd ?gz); (case ga => walk_at "hp"); (case gb => walk_at "cl"); (case gc => walk_at "na"); (case gd => walk_at "fv"))
  | ((with_reducible refine' SH.g_insR ?ga ?gb ?gz); (case ga => walk_at "hp"); (case gb => walk_at "fn"))
  | ((with_reducible refine' SH.g_setL ?ga ?gb ?gz); (case ga => walk_at "hp"); (case gb => rfl))
  | ((with_reducible refine SH.g_I ?_ ?_); (· walk_at "ci"))
  | ((with_reducible refine' SH.g_slL ?ga ?gz); (case ga => walk_at "sq"); intro _ _)
  | ((with_reducible refine' SH.g_cat ?ga ?gb ?gc ?gz); (case ga => walk_at "hp"); (case gb => walk_at "hp"); (case gc => walk_at "ls"); intro _ _))
/-- the side conditions of numbers: a divisor, a factor -/
local macro_rules | `(tactic| walk_at "ci") => `(tactic| first
  | (show _ ≠ _; omega) | (show _ < _; omega) | (constructor <;> omega) | (refine Or.inr ⟨?_, ?_⟩ <;> (show _ < _; omega)) | (refine Or.inl ⟨?_, ?_⟩ <;> (show _ < _; omega)) | (refine ⟨?_, ?_, ?_⟩ <;> decide))
local macro_rules | `(tactic| walk_at "ls") => `(tactic| first | (show _ ≤ _; exact Nat.le_trans (by assumption) (by decide)) | (show _ ≤ _; exact Nat.le_trans (by simp; omega) (by decide : 1000 ≤ sizeLine)))
local macro_rules | `(tactic| walk_at "dv") => `(tactic| rfl)
local macro_rules | `(tactic| walk_at "fv") => `(tactic| rfl)
local macro_rules | `(tactic| walk_at "fn") => `(tactic| rfl)
local macro_rules | `(tactic| walk_at "cl") => `(tactic| assumption)
local macro_rules | `(tactic| walk_at "na") => `(tactic| assumption)
local macro_rules | `(tactic| walk_at "go") => `(tactic| repeat walk_at "g2")
/-- a way is split -/
local macro_rules | `(tactic| walk_at "br") => `(tactic| with_reducible first
  | refine SH.br_d (fun _ => ?_) (fun _ => ?_) | refine SH.br_nd (fun _ => ?_) (fun _ => ?_) | refine SH.br_b (fun _ => ?_) (fun _ => ?_))
/-- all ways -/
local macro_rules | `(tactic| walk_at "all") => `(tactic| repeat' first | walk_at "g2" | (walk_at "br" <;> try (walk_at "no")))
/-- a truth value is the other -/
local macro_rules | `(tactic| walk_at "bq") => `(tactic| first | rfl | (simp_all; done) | (simp_all; omega) | (simp only [decide_eq_true_eq, decide_eq_false_iff_not, Bool.and_eq_true, Bool.or_eq_true] at *; omega))
/-- what was tracked is as it was -/
local macro_rules | `(tactic| walk_at "of") => `(tactic| first
  | assumption
  | exact SH.Off.refl _ _
  | (refine' SH.Off.new2 ?gx (by assumption); (case gx => walk_at "of"))
  | (refine' SH.Off.mut ?gx (by assumption); (case gx => walk_at "of"))
  | (refine' SH.Off.trans' ?gx (by assumption) ?gy; (case gy => (intro _ h; (first | exact h | (simp at h; done) | (simp at h ⊢; simp [h]; done)))); (case gx => walk_at "of")))
/-- kinds; parts of tuples; stars -/
local macro_rules | `(tactic| walk_at "g2") => `(tactic| first
  | (with_reducible first | refine SH.br_ntt ?_ | refine SH.br_ntf ?_ | refine SH.br_k ?_ | refine SH.br_nk ?_ | refine SH.g_star ?_ | refine SH.g_forR2 ?_ | refine SH.g_lcZ ?_ | refine SH.g_enL ?_)
  | ((with_reducible refine' SH.g_slA ?ga ?gz); (case ga => walk_at "sq"); intro _ _ _ _)
  | ((with_reducible refine' SH.g_app' ?ga ?gb ?gz); (case ga => walk_at "hp"); (case gb => walk_at "lt"); intro _ _ _)
  | ((with_reducible refine' SH.g_bml ?ga ?gz); (case ga => walk_at "sq"))
  | ((with_reducible refine' SH.g_popF ?ga ?gz); (case ga => walk_at "hp"); intro _ _ _)
  | (with_reducible first | refine SH.g_pnil ?_ | refine SH.g_pcons ?_ | (refine SH.g_disp ?_; intro _ _))
  | ((with_reducible refine' SH.g_kw ?gz))
  | ((with_reducible refine SH.g_kwR rfl ?_)))
local macro_rules | `(tactic| walk_at "lt") => `(tactic| (rw [PySem.sizeLine_eq]; omega))
namespace SH
open PySem PySem.Spec PyProof.Rows L2
/-! ### worths -/
def wAt (ws : List Int) (s : Nat) : Int := ws.getD s 0
theorem wAt_ix {ws : List Int} {s : Nat} (h : s < ws.length) : atI (ws.map V.int) ((s : Nat) : Int) = some (.int (wAt ws s)) := by
  unfold atI ixN wAt
  rw [if_pos (by omega), if_pos (by rw [List.length_map]; omega)]
  show (ws.map V.int)[(s : Int).toNat]? = _
  rw [Int.toNat_natCast, List.getElem?_map, List.getElem?_eq_getElem h, List.getD_eq_getElem?_getD, List.getElem?_eq_getElem h]
  rfl
theorem wAt_set {ws : List Int} {s t : Nat} {x : Int} (h : s < ws.length) : wAt (ws.set s x) t = if s = t then x else wAt ws t := by
  unfold wAt
  rw [List.getD_eq_getElem?_getD, List.getD_eq_getElem?_getD, List.getElem?_set]
  by_cases c : s = t
  · subst c
    rw [if_pos rfl, if_pos rfl, if_pos h]
    rfl
  · rw [if_neg c, if_neg c]
def gap (h : Nat → Int) (ws : List Int) : Nat → Nat
  | 0 => 0
  | n + 1 => gap h ws n + (h n - wAt ws n).toNat
theorem gap_le {h : Nat → Int} {ws ws' : List Int} : ∀ n, (∀ i, i < n → wAt ws i ≤ wAt ws' i) → gap h ws' n ≤ gap h ws n
  | 0, _ => Nat.le_refl _
  | n + 1, hh => by
    have := gap_le (h := h) n fun i hi => hh i (by omega)
    have := hh n (by omega)
    show gap h ws' n + (h n - wAt ws' n).toNat ≤ gap h ws n + (h n - wAt ws n).toNat
    omega
theorem gap_lt {h : Nat → Int} {ws ws' : List Int} : ∀ n, (∀ i, i < n → wAt ws i ≤ wAt ws' i) → (∃ i, i < n ∧ wAt ws i < wAt ws' i ∧ wAt ws' i ≤ h i) → gap h ws' n < gap h ws n
  | 0, _, ⟨i, hi, _⟩ => absurd hi (Nat.not_lt_zero i)
  | n + 1, hh, ⟨i, hi, h1, h2⟩ => by
    show gap h ws' n + (h n - wAt ws' n).toNat < gap h ws n + (h n - wAt ws n).toNat
    by_cases c : i = n
    · subst c
      have := gap_le (h := h) i fun j hj => hh j (by omega)
      omega
    · have := gap_lt n (fun j hj => hh j (by omega)) ⟨i, by omega, h1, h2⟩
      have := hh n (by omega)
      omega
structure MeanA (K : PySem.W.Frag) (H : Hp) (m : Addr) (g : List Nat) (T : Nat) (N D : Int) : Prop where
  at_ : SqT K H m [.int N, .int D]
  ok : MeanOk g T N D
theorem MeanA.off {K : PySem.W.Frag} {S : List Addr} {H H' : Hp} {m : Addr} {g : List Nat} {T : Nat} {N D : Int} (h : MeanA K H m g T N D) (o : Off S H H') : MeanA K H' m g T N D := ⟨o.seqT h.at_, h.ok⟩
def spWorOf (K : PySem.W.Frag) : Sp := fun vs H Q _ => ∃ p g T m N D, vs = [.ref p, .int ((T : Nat) : Int), .ref m] ∧ SqT K H p (gV g) ∧ GrOk g ∧ T < g.length ∧ (∀ l, l ≤ T → gAt g l ≤ T) ∧ MeanA K H m g T N D ∧
  ∀ F H' ws, H' F = some (.lst (ws.map V.int)) → ws.length = T + 1 → Pot g T N D (wAt ws) → Off [] H H' → Q (.ref F) H'
/-- a value is worths -/
def WorP (g : List Nat) (T : Nat) (N D : Int) (ws : List Int) : Prop := ws.length = T + 1 ∧ (∀ w ∈ ws, 0 ≤ w) ∧ ∀ s c, s ≤ T → c ≤ s → (c : Int) * D + wAt ws (gAt g (s - c)) ≤ N + wAt ws s
theorem WorP.of {g : List Nat} {T : Nat} {N D : Int} {ws : List Int} (hl : ws.length = T + 1) (p : Pot g T N D (wAt ws)) : WorP g T N D ws := by
  refine ⟨hl, fun w hw => ?_, fun s c hs hc => by have := p.le s c hs hc; omega⟩
  obtain ⟨i, hi, rfl⟩ := List.mem_iff_getElem.mp hw
  have := p.nn i (by omega)
  unfold wAt at this
  rwa [List.getD_eq_getElem?_getD, List.getElem?_eq_getElem hi] at this
/-- a value where worths are wanted: whole numbers, or no tuple -/
def WorV (K : PySem.W.Frag) (H : Hp) (g : List Nat) (T : Nat) (N D : Int) (v : V) (b : Prop) : Prop := (∃ p ws, v = .ref p ∧ SqT K H p (ws.map V.int) ∧ ws.length ≤ 1000 ∧ (b ↔ WorP g T N D ws)) ∨ ∃ k, KdV K H v k ∧ k ≠ .tup ∧ ¬ b
def spIsWor (K : PySem.W.Frag) : Sp := fun vs H Q E => ∃ v u x, vs = [v, u, x] ∧ ((∃ p g s, StkA K H v u p g s ∧ ∃ b : Prop, (∀ H', Off [] H H' → WorV K H' g (topOf g s) (bestM g (topOf g s)).1 (bestM g (topOf g s)).2 x b) ∧ ∀ r H', (r = true ↔ b) → Off [] H H' → Q (.bl r) H') ∨
  (∃ nm, BadS K H v u nm ∧ ∀ H', Off [] H H' → RaiseW (He.ga K "BadArgument") "name" (.str nm) H' E))
section
variable {P : Program} {w : World} {K : PySem.W.Frag} {mg : Str → Option Value} {base : Heap}
theorem ok_worths_of (T : Txt P w K mg) : DefOk P w K mg base "worths_of" 1 ["growth", "last", "mean"] (spWorOf K) := by
  refine T.d_worths_of.ok sc_worths_of (fun _ _ _ _ _ _ us hl => match us, hl with | [_, _, _], _ => rfl) (fun vs H Q E h => ?_) (fun f cdv A outer s H vs Q E hr h => ?_)
  · obtain ⟨p, g, T0, m, N, D, rfl, _⟩ := h
    rfl
  · obtain ⟨p, g, T0, m, N, D, rfl, hp, G, hT, cl, hm, q⟩ := h
    have B := T.blt
    have hu := hu_of hr
    refine ⟨_, (pss_cons (ps_set (i := 4) sc_worths_of.nd rfl (by first | exact Or.inl rfl | exact Or.inr rfl) (pe_lc (own := [("stock", 3)]) rfl sc_worths_of.nd (pi_range1 rfl B.b_range (pa_cons (pe_op op_add (pv 1) pe_int) pa_nil)) (blkOk_by (own := [("stock", 3)]) (N := ["growth", "last", "mean", "stock", "found", "changed", "best", "catch"]) (sc := defScope s_worths_of) (by decide +kernel)) (fun _ _ _ _ _ => (pg_name (i := 3) sc_worths_of.nd rfl (by first | exact Or.inl rfl | exact Or.inr rfl))) (fun _ _ _ _ _ => pts_nil) (fun _ _ _ _ _ => pe_int)))
  (pss_cons (ps_set (i := 5) sc_worths_of.nd rfl (by first | exact Or.inl rfl | exact Or.inr rfl) pe_bl)
  (pss_cons (ps_while (passes_of rfl) (pt_val (pv 5) (by intro _; rfl))
    (pss_cons (ps_set (i := 5) sc_worths_of.nd rfl (by first | exact Or.inl rfl | exact Or.inr rfl) pe_bl)
  (pss_one (ps_for (passes_of rfl) rfl (pi_range1 rfl B.b_range (pa_cons (pe_op op_add (pv 1) pe_int) pa_nil)) (pg_name (i := 3) sc_worths_of.nd rfl (by first | exact Or.inl rfl | exact Or.inr rfl))
    (pss_cons (ps_set (i := 6) sc_worths_of.nd rfl (by first | exact Or.inl rfl | exact Or.inr rfl) (pe_callB (cr_maxK (K := K) rfl rfl) (by rfl) B.b_max (by decide +kernel) (pa_cons (pe_lc (own := [("catch", 7)]) rfl sc_worths_of.nd (pi_range1 rfl B.b_range (pa_cons (pe_op op_add (pv 3) pe_int) pa_nil)) (blkOk_by (own := [("catch", 7)]) (N := ["growth", "last", "mean", "stock", "found", "changed", "best", "catch"]) (sc := defScope s_worths_of) (by decide +kernel)) (fun _ _ _ _ _ => (pg_name (i := 7) sc_worths_of.nd rfl (by first | exact Or.inl rfl | exact Or.inr rfl))) (fun _ _ _ _ _ => pts_nil) (fun _ _ _ _ _ => (pe_op op_add (pe_op op_sub (pe_op op_mul (pv 7) (pe_ix (ix_tupK (K := K) rfl) (pv 2) pe_int (fun _ _ => rfl))) (pe_ix (ix_tupK (K := K) rfl) (pv 2) pe_int (fun _ _ => rfl))) (pe_ix (ix_listK (K := K) rfl) (pv 4) (pe_ix (ix_tupK (K := K) rfl) (pv 0) (pe_op op_sub (pv 3) (pv 7)) (fun _ _ => rfl)) (fun _ _ => rfl))))) pa_nil)))
  (pss_one (ps_if (pt_cmpR op_gt (pv 6) (pe_ix (ix_listK (K := K) rfl) (pv 4) (pv 3) (fun _ _ => rfl)) (nomark _))
    (pss_cons (ps_asg (pv 6) (pg_sub (pv 4) (pv 3) set_list))
  (pss_one (ps_set (i := 5) sc_worths_of.nd rfl (by first | exact Or.inl rfl | exact Or.inr rfl) pe_bl)))
    pss_nil)))))))
  (pss_one (ps_ret (pv 4)))))), ?_⟩
    have n1 := G.n1
    have eT : ((T0 : Nat) : Int) + 1 = ((T0 + 1 : Nat) : Int) := by omega
    obtain ⟨hh, pot⟩ := hm.ok.pot
    walk_at "go"
    rw [eT]
    refine lcR_map (fun _ => .int 0) ⟨by omega, by omega⟩ (by rw [sizeLine_eq]; omega) (fun x => rfl) (fun i H1 hi o1 M kk => ?_) (fun F H1 hF o1 e1 => ?_)
    · walk_at "go"
      exact kk _ (.refl _ _)
    rw [Int.toNat_natCast] at e1
    have er0 : ((List.range (T0 + 1)).map fun _ => V.int 0) = (List.replicate (T0 + 1) (0 : Int)).map V.int := by
      rw [List.map_replicate, List.map_const', List.length_range]
    rw [er0] at e1
    have w0 : ∀ s, wAt (List.replicate (T0 + 1) (0 : Int)) s = 0 := fun s => by
      unfold wAt
      rw [List.getD_eq_getElem?_getD, List.getElem?_replicate]
      split <;> rfl
    walk_at "go"
    refine g_while (fun mm σ H2 => ∃ x3 ch x6 ws, σ = [some (.ref p), some (.int (T0 : Int)), some (.ref m), x3, some (.ref F), some (.bl ch), x6, none] ∧ H2 F = some (.lst (ws.map V.int)) ∧ ws.length = T0 + 1 ∧ (∀ s, s ≤ T0 → 0 ≤ wAt ws s ∧ wAt ws s ≤ hh s) ∧ (ch = false → Pot g T0 N D (wAt ws)) ∧ mm = gap hh ws (T0 + 1) + (if ch then 1 else 0) ∧ Off [F] H1 H2) _
      ⟨_, true, _, _, rfl, e1, List.length_replicate, fun s hs => by rw [w0]; exact ⟨Int.le_refl _, pot.nn s hs⟩, (fun z => by cases z), rfl, .refl _ _⟩ (fun mm σ H2 hW => ?_)
    obtain ⟨x3, ch, x6, ws, rfl, f1, f2, f3, f4, f5, f6⟩ := hW
    walk_at "go"
    cases ch with
    | false =>
      walk_at "go"
      exact q F H2 ws f1 f2 (f4 rfl) (o1.mutA f6 hF)
    | true =>
      walk_at "go"
      refine g_whN ?_
      walk_at "go"
      rw [eT]
      subst f5
      refine forR_mk (fun s σ H3 => ∃ x3 ch x6 ws', σ = [some (.ref p), some (.int (T0 : Int)), some (.ref m), x3, some (.ref F), some (.bl ch), x6, none] ∧ H3 F = some (.lst (ws'.map V.int)) ∧ ws'.length = T0 + 1 ∧ (∀ s, s ≤ T0 → 0 ≤ wAt ws' s ∧ wAt ws' s ≤ hh s) ∧
        (ch = false → ws' = ws ∧ ∀ s' c, s' < s → c ≤ s' → (c : Int) * D - N + wAt ws (gAt g (s' - c)) ≤ wAt ws s') ∧ (ch = true → gap hh ws' (T0 + 1) < gap hh ws (T0 + 1)) ∧ (∀ i, wAt ws i ≤ wAt ws' i) ∧ Off [F] H1 H3) ⟨by omega, by omega⟩
        ⟨_, _, _, ws, rfl, f1, f2, f3, fun _ => ⟨rfl, fun s' c h => absurd h (Nat.not_lt_zero _)⟩, (fun z => by cases z), fun i => Int.le_refl _, f6⟩ (fun s σ H3 hs hP => ?_) (fun σ H3 hP => ?_)
      rotate_left 1
      · obtain ⟨x3, ch, x6, ws', rfl, g1, g2, g3, g4, g5, g6, g7⟩ := hP
        rw [Int.toNat_natCast] at g4
        cases ch with
        | false =>
          obtain ⟨rfl, g4⟩ := g4 rfl
          exact ⟨_, by show gap hh ws' (T0 + 1) + 0 < gap hh ws' (T0 + 1) + 1; omega, _, _, _, ws', rfl, g1, g2, g3, fun _ => ⟨fun s hs => (g3 s hs).1, fun s c hs hc => g4 s c (by omega) hc⟩, rfl, g7⟩
        | true =>
          have := g5 rfl
          exact ⟨_, by show gap hh ws' (T0 + 1) + 1 < gap hh ws (T0 + 1) + 1; omega, _, _, _, ws', rfl, g1, g2, g3, (fun z => by cases z), rfl, g7⟩
      obtain ⟨x3, ch, x6, ws', rfl, g1, g2, g3, g4, g5, g6, g7⟩ := hP
      rw [Int.toNat_natCast] at hs
      have hp3 := g7.seqT (o1.seqT hp)
      have hm3 := g7.seqT (o1.seqT hm.at_)
      have es : ((s : Nat) : Int) + 1 = ((s + 1 : Nat) : Int) := by omega
      walk_at "go"
      rw [es]
      refine lcR_map (fun c => .int ((c : Int) * D - N + wAt ws' (gAt g (s - c)))) ⟨by omega, by omega⟩ (by rw [sizeLine_eq]; omega) (fun x => rfl) (fun c H4 hc o4 M kk => ?_) (fun L H4 hL o4 e4 => ?_)
      · rw [Int.toNat_natCast] at hc
        have hp4 := o4.seqT hp3
        have hm4 := o4.seqT hm3
        have g14 := o4.at nin_nil g1
        have esub : ((s : Nat) : Int) - ((c : Nat) : Int) = ((s - c : Nat) : Int) := by omega
        walk_at "go"
        rw [esub]
        refine g_ixT hp4 (gV_at (by omega)) ?_
        have := cl (s - c) (by omega)
        refine g_ixL (.of g14) (wAt_ix (by omega)) ?_
        walk_at "go"
        exact kk _ (.refl _ _)
      rw [Int.toNat_natCast] at e4
      have g14 := o4.at nin_nil g1
      walk_at "go"
      have eL : ((List.range (s + 1)).map fun (c : Nat) => V.int ((c : Int) * D - N + wAt ws' (gAt g (s - c)))) = ((List.range (s + 1)).map fun (c : Nat) => ((c : Int) * D - N + wAt ws' (gAt g (s - c)))).map V.int := by rw [List.map_map]; rfl
      refine ⟨L, _, rfl, .of (e4.trans (by rw [eL])), by rw [List.length_map, List.length_range]; omega, fun mx hmx hall => ?_⟩
      obtain ⟨c0, hc0, emx⟩ := List.mem_map.mp hmx
      have hc0' := List.mem_range.mp hc0
      have hall' : ∀ c, c ≤ s → (c : Int) * D - N + wAt ws' (gAt g (s - c)) ≤ mx := fun c hc => hall _ (List.mem_map.mpr ⟨c, List.mem_range.mpr (by omega), rfl⟩)
      have hbd : mx ≤ hh s := by
        rw [← emx]
        have h1 := pot.le s c0 (by omega) (by omega)
        have h2 := (g3 (gAt g (s - c0)) (cl _ (by omega))).2
        omega
      walk_at "go"
      refine g_ixL (.of g14) (wAt_ix (by omega)) ?_
      walk_at "go"
      refine br_d (fun c1 => ?_) (fun c1 => ?_)
      · walk_at "go"
        have hix : ixN (ws'.map V.int).length ((s : Nat) : Int) = some s := by
          unfold ixN
          rw [if_pos (by omega), if_pos (by rw [List.length_map]; omega), Int.toNat_natCast]
        refine g_setL g14 hix ?_
        have oset : Off [F] H4 (upd H4 F (.lst ((ws'.map V.int).set s (.int mx)))) := .put (by simp) g14 trivial
        have eset : (ws'.map V.int).set s (.int mx) = (ws'.set s mx).map V.int := by rw [List.map_set]
        walk_at "go"
        have hw := fun t => wAt_set (ws := ws') (s := s) (t := t) (x := mx) (by omega)
        have up : ∀ i, wAt ws' i ≤ wAt (ws'.set s mx) i := fun i => by
          rw [hw]
          split
          · rename_i e; subst e; omega
          · exact Int.le_refl _
        refine ⟨_, true, _, ws'.set s mx, rfl, by rw [upd_same, eset], by rw [List.length_set]; exact g2, fun t ht => ?_, (fun z => by cases z), fun _ => ?_, fun i => Int.le_trans (g6 i) (up i), (g7.trans (o4.mono (by simp))).trans oset⟩
        · rw [hw]
          split
          · rename_i e
            subst e
            have := g3 s ht
            omega
          · exact g3 t ht
        · have h1 : gap hh (ws'.set s mx) (T0 + 1) < gap hh ws' (T0 + 1) := gap_lt _ (fun i _ => up i) ⟨s, by omega, by rw [hw, if_pos rfl]; omega, by rw [hw, if_pos rfl]; exact hbd⟩
          have h2 := gap_le (h := hh) (ws := ws) (ws' := ws') (T0 + 1) fun i _ => g6 i
          omega
      · walk_at "go"
        refine ⟨_, ch, _, ws', rfl, g14, g2, g3, fun z => ?_, g5, g6, g7.trans (o4.mono (by simp))⟩
        obtain ⟨rfl, g4⟩ := g4 z
        refine ⟨rfl, fun s' c hs' hc => ?_⟩
        by_cases e : s' = s
        · subst e
          have := hall' c hc
          omega
        · exact g4 s' c (by omega) hc
end
end SH
end

section
/-! #### the walk's words -/
local macro_rules | `(tactic| walk_at "ne0") => `(tactic| first
  | assumption
  | (refine Ne.symm ?_; assumption))
local macro_rules | `(tactic| walk_at "ne") => `(tactic| first
  | assumption
  | (refine Ne.symm ?_; assumption)
  | (refine' L2.ne_of_none ?gx (by assumption); (case gx => walk_at "hp"))
  | (refine' Ne.symm (L2.ne_of_none ?gx (by assumption)); (case gx => walk_at "hp")))
local macro_rules | `(tactic| walk_at "hp") => `(tactic| first
  | assumption
  | exact L2.upd_same
  | (refine' SH.upd_new ?gh (by assumption); (case gh => walk_at "hp"))
  | (refine' (L2.upd_ne ?gn).trans ?gh; (case gn => walk_at "ne0"); (case gh => walk_at "hp"))
  | (refine' SH.Off.at (by assumption) ?gn ?gh; (case gn => walk_at "nin"); (case gh => walk_at "hp")))
local macro_rules | `(tactic| walk_at "nin") => `(tactic| first
  | exact SH.nin_nil
  | (refine SH.nin_cons ?_ ?_; (· walk_at "ne0"); (· walk_at "nin")))
local macro_rules | `(tactic| walk_at "sq") => `(tactic| first
  | assumption
  | (apply L2.SqL.of; (· walk_at "hp"))
  | (apply L2.SqT.of; (· walk_at "hp"))
  | (refine' SH.seqT_new ?gx (by assumption); (case gx => walk_at "sq"))
  | (refine' SH.seqL_new ?gx (by assumption); (case gx => walk_at "sq"))
  | (refine' SH.Off.seqT (by assumption) ?gx; (case gx => walk_at "sq"))
  | (refine' SH.Off.seqL (by assumption) ?gy ?gx; (case gx => walk_at "sq"); (case gy => walk_at "nin")))
local macro_rules | `(tactic| walk_at "kd") => `(tactic| first
  | assumption | exact SH.KdV.int _ | exact SH.KdV.bl _ | exact SH.KdV.str _ | exact SH.KdV.non
  | (apply SH.KdV.tup; (· walk_at "sq")) | (apply SH.KdV.lst; (· walk_at "sq")))
/-- a way that cannot be -/
local macro_rules | `(tactic| walk_at "no") => `(tactic| (exfalso; first | assumption | omega | contradiction | (simp_all; done)))
/-- one step -/
local macro_rules | `(tactic| walk_at "g1") => `(tactic| with_reducible first
  | refine SH.g_var (by with_unfolding_all rfl) ?_ | refine SH.g_c ?_ | refine SH.g_op ?_ | refine SH.g_un ?_ | refine SH.g_I0 ?_ | refine SH.g_U ?_
  | refine SH.g_eqI ?_ | refine SH.g_neI ?_ | refine SH.g_eqS ?_ | refine SH.g_neS ?_
  | refine SH.g_test ?_ | refine SH.g_B ?_ | refine SH.g_isB ?_ | refine SH.g_and ?_ | refine SH.g_or ?_ | refine SH.g_not ?_ | refine SH.g_andV ?_ | refine SH.g_orV ?_ | refine SH.g_notV ?_ | refine SH.g_ifE ?_ | refine SH.g_chain ?_
  | refine SH.g_nil ?_ | refine SH.g_cons ?_ | refine SH.g_tup ?_ | refine SH.g_lst ?_ | refine SH.g_call ?_ | refine SH.g_fld ?_ | refine SH.g_meth ?_ | refine SH.g_make ?_ | refine SH.g_cb ?_ | refine SH.g_bm ?_
  | refine SH.g_seq ?_ | refine SH.g_asg ?_ | refine SH.g_name ?_ | refine SH.g_drop ?_ | refine SH.g_ret ?_ | refine SH.g_retN ?_ | refine SH.g_next ?_ | refine SH.g_brk ?_ | refine SH.g_cnt ?_ | refine SH.g_ifs ?_ | refine SH.g_par ?_ | refine SH.g_par2 ?_ | refine SH.g_fldS ?_ | refine SH.g_raise ?_ | refine SH.g_rs ?_
  | refine SH.g_sub ?_ | refine SH.g_yes ?_ | refine SH.g_sl ?_ | refine SH.g_noPart ?_ | refine SH.g_part ?_ | refine SH.g_intO ?_ | refine SH.g_dget ?_ | refine SH.g_dput ?_ | refine SH.g_forR ?_ | refine SH.g_forL ?_ | refine SH.g_forT ?_ | refine SH.g_lcR ?_ | refine SH.g_lcL ?_ | refine SH.g_lcT ?_ | refine SH.g_gcons ?_ | refine SH.g_gnil ?_
  | refine SH.br_t ?_ | refine SH.br_f ?_
  | refine SH.g_int ?_ | refine SH.g_abs ?_ | refine SH.g_max2 ?_ | refine SH.g_min2 ?_)
local macro_rules | `(tactic| walk_at "g2") => `(tactic| first
  | walk_at "g1"
  | ((with_reducible refine' SH.g_isiInt ?ga ?gz); (case ga => walk_at "kd"))
  | ((with_reducible refine' SH.g_isiBool ?ga ?gz); (case ga => walk_at "kd"))
  | ((with_reducible refine' SH.g_isiStr ?ga ?gz); (case ga => walk_at "kd"))
  | ((with_reducible refine' SH.g_isiTup ?ga ?gz); (case ga => walk_at "kd"))
  | ((with_reducible refine' SH.g_ixT ?ga ?gb ?gz); (case ga => walk_at "sq"); (case gb => rfl))
  | ((with_reducible refine' SH.g_ixL ?ga ?gb ?gz); (case ga => walk_at "sq"); (case gb => first | rfl | (apply SH.atI_refs; assumption)))
  | ((with_reducible refine SH.br_F ?_ ?_); (· decide +kernel)) | ((with_reducible refine SH.br_T ?_ ?_); (· decide +kernel)) | ((with_reducible refine SH.br_NF ?_ ?_); (· decide +kernel)) | ((with_reducible refine SH.br_NT ?_ ?_); (· decide +kernel))
  | ((with_reducible refine' SH.g_gtup ?ga ?gb ?gz); (case ga => walk_at "sq"); (case gb => rfl))
  | ((with_reducible refine' SH.g_lenT ?ga ?gz); (case ga => walk_at "sq"))
  | ((with_reducible refine' SH.g_lenL ?ga ?gz); (case ga => walk_at "sq"))
  | ((with_reducible refine SH.g_mkT (SH.sz rfl) ?_); intro _ _)
  | ((with_reducible refine SH.g_mkL (SH.sz rfl) ?_); intro _ _)
  | ((with_reducible refine SH.g_dnew ?_); intro _ _)
  | ((with_reducible refine' SH.g_tupL ?ga ?gz); (case ga => walk_at "sq"); intro _ _)
  | ((with_reducible refine' SH.g_lstL ?ga ?gz); (case ga => walk_at "sq"); intro _ _)
  | ((with_reducible refine' SH.g_lstT ?ga ?gz); (case ga => walk_at "sq"); intro _ _)
  | ((with_reducible refine' SH.g_dgR ?ga ?gb ?gz); (case ga => walk_at "hp"); (case gb => walk_at "dv"))
  | ((with_reducible refine' SH.g_fldR ?ga ?gb ?gc ?gd ?gz); (case ga => walk_at "hp"); (case gb => walk_at "cl"); (case gc => walk_at "na"); (case gd => walk_at "fv"))
  | ((with_reducible refine' SH.g_insR ?ga ?gb ?gz); (case ga => walk_at "hp"); (case gb => walk_at "fn"))
  | ((with_reducible refine' SH.g_setL ?ga ?gb ?gz); (case ga => walk_at "hp"); (case gb => rfl))
  | ((with_reducible refine SH.g_I ?_ ?_); (· walk_at "ci"))
  | ((with_reducible refine' SH.g_slL ?ga ?gz); (case ga => walk_at "sq"); intro _ _)
  | ((with_reducible refine' SH.g_cat ?ga ?gb ?gc ?gz); (case ga => walk_at "hp"); (case gb => walk_at "hp"); (case gc => walk_at "ls"); intro _ _))
/-- the side conditions of numbers: a divisor, a factor -/
local macro_rules | `(tactic| walk_at "ci") => `(tactic| first
  | (show _ ≠ _; omega) | (show _ < _; omega) | (constructor <;> omega) | (refine Or.inr ⟨?_, ?_⟩ <;> (show _ < _; omega)) | (refine Or.inl ⟨?_, ?_⟩ <;> (show _ < _; omega)) | (refine ⟨?_, ?_, ?_⟩ <;> decide))
local macro_rules | `(tactic| walk_at "ls") => `(tactic| first | (show _ ≤ _; exact Nat.le_trans (by assumption) (by decide)) | (show _ ≤ _; exact Nat.le_trans (by simp; omega) (by decide : 1000 ≤ sizeLine)))
local macro_rules | `(tactic| walk_at "dv") => `(tactic| rfl)
local macro_rules | `(tactic| walk_at "fv") => `(tactic| rfl)
local macro_rules | `(tactic| walk_at "fn") => `(tactic| rfl)
local macro_rules | `(tactic| walk_at "cl") => `(tactic| assumption)
local macro_rules | `(tactic| walk_at "na") => `(tactic| assumption)
local macro_rules | `(tactic| walk_at "go") => `(tactic| repeat walk_at "g2")
/-- a way is split -/
local macro_rules | `(tactic| walk_at "br") => `(tactic| with_reducible first
  | refine SH.br_d (fun _ => ?_) (fun _ => ?_) | refine SH.br_nd (fun _ => ?_) (fun _ => ?_) | refine SH.br_b (fun _ => ?_) (fun _ => ?_))
/-- all ways -/
local macro_rules | `(tactic| walk_at "all") => `(tactic| repeat' first | walk_at "g2" | (walk_at "br" <;> try (walk_at "no")))
/-- a truth value is the other -/
local macro_rules | `(tactic| walk_at "bq") => `(tactic| first | rfl | (simp_all; done) | (simp_all; omega) | (simp only [decide_eq_true_eq, decide_eq_false_iff_not, Bool.and_eq_true, Bool.or_eq_true] at *; omega))
/-- what was tracked is as it was -/
local macro_rules | `(tactic| walk_at "of") => `(tactic| first
  | assumption
  | exact SH.Off.refl _ _
  | (refine' SH.Off.new2 ?gx (by assumption); (case gx => walk_at "of"))
  | (refine' SH.Off.mut ?gx (by assumption); (case gx => walk_at "of"))
  | (refine' SH.Off.trans' ?gx (by assumption) ?gy; (case gy => (intro _ h; (first | exact h | (simp at h; done) | (simp at h ⊢; simp [h]; done)))); (case gx => walk_at "of")))
/-- kinds; parts of tuples; stars -/
local macro_rules | `(tactic| walk_at "g2") => `(tactic| first
  | (with_reducible first | refine SH.br_ntt ?_ | refine SH.br_ntf ?_ | refine SH.br_k ?_ | refine SH.br_nk ?_ | refine SH.g_star ?_ | refine SH.g_forR2 ?_ | refine SH.g_lcZ ?_ | refine SH.g_enL ?_)
  | ((with_reducible refine' SH.g_slA ?ga ?gz); (case ga => walk_at "sq"); intro _ _ _ _)
  | ((with_reducible refine' SH.g_app' ?ga ?gb ?gz); (case ga => walk_at "hp"); (case gb => walk_at "lt"); intro _ _ _)
  | ((with_reducible refine' SH.g_bml ?ga ?gz); (case ga => walk_at "sq"))
  | ((with_reducible refine' SH.g_popF ?ga ?gz); (case ga => walk_at "hp"); intro _ _ _)
  | (with_reducible first | refine SH.g_pnil ?_ | refine SH.g_pcons ?_ | (refine SH.g_disp ?_; intro _ _))
  | ((with_reducible refine' SH.g_kw ?gz))
  | ((with_reducible refine SH.g_kwR rfl ?_)))
local macro_rules | `(tactic| walk_at "lt") => `(tactic| (rw [PySem.sizeLine_eq]; omega))
namespace SH
open PySem PySem.Spec PyProof.Rows L2
def spWor (K : PySem.W.Frag) : Addr → List Nat → Nat → Hp → VK → Prop := fun _ g s H Q => ∀ t H' ws, SqT K H' t (ws.map V.int) → ws.length = topOf g s + 1 → Pot g (topOf g s) (bestM g (topOf g s)).1 (bestM g (topOf g s)).2 (wAt ws) → Off [] H H' → Q (.ref t) H'
section
variable {P : Program} {w : World} {K : PySem.W.Frag} {mg : Str → Option Value} {base : Heap}
theorem okL_worths (T : Txt P w K mg) : DefL P w K mg base "worths" 5 ["growth", "start"] (spGS K (spWor K)) := by
  refine T.d_worths.okL sc_worths (fun _ _ _ _ _ _ us hl => match us, hl with | [_, _], _ => rfl) (fun vs H Q E h => ?_) (fun f cdv A outer s H vs Q E hr h => ?_)
  · obtain ⟨v, u, rfl, _⟩ := h
    rfl
  · obtain ⟨v, u, rfl, h⟩ := h
    have B := T.blt
    have hu := hu_of hr
    have G_demand_stock := ok_demand_stock (base := base) T
    have G_top_of := ok_top_of (base := base) T
    have G_worths_of := ok_worths_of (base := base) T
    have G_best_mean := ok_best_mean (base := base) T
    refine ⟨_, (pss_cons (ps_expr (pe_df G_demand_stock (hr.mono (by decide)) (L2N.passes_call (L2N.takes_of rfl rfl rfl rfl) fun _ _ _ _ z => z) (pa_cons (pv 0) (pa_cons (pv 1) pa_nil))))
  (pss_cons (ps_set (i := 2) sc_worths.nd rfl (by first | exact Or.inl rfl | exact Or.inr rfl) (pe_df G_top_of (hr.mono (by decide)) (L2N.passes_call (L2N.takes_of rfl rfl rfl rfl) fun _ _ _ _ z => z) (pa_cons (pv 0) (pa_cons (pv 1) pa_nil))))
  (pss_one (ps_ret (pe_callTy (c_tupK (K := K) rfl) (by rfl) B.b_tuple (by decide +kernel) (pa_cons (pe_df G_worths_of (hr.mono (by decide)) (L2N.passes_call (L2N.takes_of rfl rfl rfl rfl) fun _ _ _ _ z => z) (pa_cons (pv 0) (pa_cons (pv 2) (pa_cons (pe_df G_best_mean (hr.mono (by decide)) (L2N.passes_call (L2N.takes_of rfl rfl rfl rfl) fun _ _ _ _ z => z) (pa_cons (pv 0) (pa_cons (pv 2) pa_nil))) pa_nil)))) pa_nil)))))), ?_⟩
    rcases h with ⟨p, g, s, ha, q⟩ | ⟨nm, hb, q⟩
    · walk_at "go"
      refine ⟨v, u, rfl, .inl ⟨p, g, s, ha, fun H1 o1 => ?_⟩⟩
      obtain ⟨rfl, rfl, hp, G, hs⟩ := ha
      walk_at "go"
      refine ⟨p, g, s, rfl, o1.seqT hp, G, hs, ?_⟩
      have it := G.isTop hs
      walk_at "go"
      refine ⟨p, g, _, rfl, o1.seqT hp, G, it.lt, it.cl, fun r H2 e2 o2 => ?_⟩
      walk_at "go"
      refine ⟨p, g, _, r, _, _, rfl, o2.seqT (o1.seqT hp), G, it.lt, it.cl, ⟨.of e2, bestM_ok G it.lt it.cl⟩, fun F H3 ws e3 l3 p3 o3 => ?_⟩
      walk_at "go"
      rename_i t ht
      exact q t _ ws (.of upd_same) l3 p3 (((o1.trans o2).trans o3).new2 ht)
    · walk_at "go"
      exact ⟨v, u, rfl, .inr ⟨nm, hb, fun H1 o1 => q H1 o1⟩⟩
theorem ok_worths (T : Txt P w K mg) : DefOk P w K mg base "worths" 5 ["growth", "start"] (spGS K (spWor K)) := (okL_worths T).ok
theorem okL_is_worths (T : Txt P w K mg) : DefL P w K mg base "is_worths" 5 ["growth", "start", "value"] (spIsWor K) := by
  refine T.d_is_worths.okL sc_is_worths (fun _ _ _ _ _ _ us hl => match us, hl with | [_, _, _], _ => rfl) (fun vs H Q E h => ?_) (fun f cdv A outer s H vs Q E hr h => ?_)
  · obtain ⟨v, u, x, rfl, _⟩ := h
    rfl
  · obtain ⟨v, u, x, rfl, h⟩ := h
    have B := T.blt
    have hu := hu_of hr
    have G_demand_stock := ok_demand_stock (base := base) T
    have G_top_of := ok_top_of (base := base) T
    have G_best_mean := ok_best_mean (base := base) T
    have G_is_tuple_of := ok_is_tuple_of (base := base) T
    have G_is_integer := ok_is_integer (base := base) T
    refine ⟨_, (pss_cons (ps_expr (pe_df G_demand_stock (hr.mono (by decide)) (L2N.passes_call (L2N.takes_of rfl rfl rfl rfl) fun _ _ _ _ z => z) (pa_cons (pv 0) (pa_cons (pv 1) pa_nil))))
  (pss_cons (ps_set (i := 3) sc_is_worths.nd rfl (by first | exact Or.inl rfl | exact Or.inr rfl) (pe_df G_top_of (hr.mono (by decide)) (L2N.passes_call (L2N.takes_of rfl rfl rfl rfl) fun _ _ _ _ z => z) (pa_cons (pv 0) (pa_cons (pv 1) pa_nil))))
  (pss_cons (ps_if (PW.pt (pw_or (pt_not (pt_val (pe_df G_is_tuple_of (hr.mono (by decide)) (L2N.passes_call (L2N.takes_of rfl rfl rfl rfl) fun _ _ _ _ z => z) (pa_cons (pv 2) (pa_cons (pe_op op_add (pv 3) pe_int) pa_nil))) (by intro _; rfl))) (pw_or1 (pt_not (pt_val (pe_callB (cr_allK (K := K) rfl rfl) (by rfl) B.b_all (by decide +kernel) (pa_cons (pe_lc (own := [("worth", 8)]) rfl sc_is_worths.nd (pi_tupK (K := K) rfl (pv 2)) (blkOk_by (own := [("worth", 8)]) (N := ["growth", "start", "value", "last", "part", "whole", "stock", "catch", "worth"]) (sc := defScope s_is_worths) (by decide +kernel)) (fun _ _ _ _ _ => (pg_name (i := 8) sc_is_worths.nd rfl (by first | exact Or.inl rfl | exact Or.inr rfl))) (fun _ _ _ _ _ => pts_nil) (fun _ _ _ _ _ => (pe_and (pe_df G_is_integer (hr.mono (by decide)) passN (pa_cons (pv 8) pa_nil)) (pe_one (pe_cmpR op_ge (pv 8) pe_int (nomark _)))))) pa_nil)) (by intro _; rfl))))))
    (pss_one (ps_ret pe_bl))
    pss_nil)
  (pss_cons (ps_asg (pe_df G_best_mean (hr.mono (by decide)) (L2N.passes_call (L2N.takes_of rfl rfl rfl rfl) fun _ _ _ _ z => z) (pa_cons (pv 0) (pa_cons (pv 3) pa_nil))) (pg_tupK (K := K) (n := 2) rfl rfl (pgs_cons (pg_name (i := 4) sc_is_worths.nd rfl (by first | exact Or.inl rfl | exact Or.inr rfl)) (pgs_cons (pg_name (i := 5) sc_is_worths.nd rfl (by first | exact Or.inl rfl | exact Or.inr rfl)) pgs_nil))))
  (pss_cut (ps_for (passes_of rfl) rfl (pi_range1 rfl B.b_range (pa_cons (pe_op op_add (pv 3) pe_int) pa_nil)) (pg_name (i := 6) sc_is_worths.nd rfl (by first | exact Or.inl rfl | exact Or.inr rfl))
    (pss_one (ps_for (passes_of rfl) rfl (pi_range1 rfl B.b_range (pa_cons (pe_op op_add (pv 6) pe_int) pa_nil)) (pg_name (i := 7) sc_is_worths.nd rfl (by first | exact Or.inl rfl | exact Or.inr rfl))
    (pss_one (ps_if (pt_cmpR op_gt (pe_op op_add (pe_op op_mul (pv 7) (pv 5)) (pe_ix (ix_tupK (K := K) rfl) (pv 2) (pe_ix (ix_tupK (K := K) rfl) (pv 0) (pe_op op_sub (pv 6) (pv 7)) (fun _ _ => rfl)) (fun _ _ => rfl))) (pe_op op_add (pv 4) (pe_ix (ix_tupK (K := K) rfl) (pv 2) (pv 6) (fun _ _ => rfl))) (nomark _))
    (pss_one (ps_ret pe_bl))
    pss_nil)))))
  (pss_one (ps_ret pe_bl))))))), ?_⟩
    rcases h with ⟨p, g, s, ha, b, hv, q⟩ | ⟨nm, hb, q⟩
    rotate_left 1
    · walk_at "go"
      exact ⟨v, u, rfl, .inr ⟨nm, hb, fun H1 o1 => q H1 o1⟩⟩
    walk_at "go"
    refine ⟨v, u, rfl, .inl ⟨p, g, s, ha, fun H1 o1 => ?_⟩⟩
    obtain ⟨rfl, rfl, hp, G, hs⟩ := ha
    walk_at "go"
    refine ⟨p, g, s, rfl, o1.seqT hp, G, hs, ?_⟩
    have it := G.isTop hs
    have mok := bestM_ok G it.lt it.cl
    have n1 := G.n1
    have tlt := it.lt
    have cl := it.cl
    generalize topOf g s = T0 at *
    walk_at "go"
    have eT : ((T0 : Nat) : Int) + 1 = ((T0 + 1 : Nat) : Int) := by omega
    rcases hv H1 o1 with ⟨t, ws, rfl, ht, hl, hb⟩ | ⟨k, hk, nk, hb⟩
    rotate_left 1
    · refine ⟨x, _, _, rfl, .inr ⟨k, hk, nk, rfl⟩, ?_⟩
      walk_at "go"
      exact q false H1 ⟨(fun z => by cases z), fun z => absurd z hb⟩ o1
    refine ⟨.ref t, _, _, rfl, .inl ⟨t, _, rfl, ht, rfl⟩, ?_⟩
    walk_at "go"
    refine br_nd (fun c1 => ?_) (fun c1 => ?_)
    · walk_at "go"
      refine q false H1 ⟨(fun z => by cases z), fun z => ?_⟩ o1
      have := (hb.mp z).1
      rw [List.length_map] at c1
      omega
    rw [List.length_map] at c1
    have hl' : ws.length = T0 + 1 := by omega
    walk_at "go"
    refine lcT_map (F := fun v m => v = V.int m) (fun w => .bl (decide (w ≥ 0))) ht (by
        have one : ∀ ns : List Int, Paired (fun v m => v = V.int m) (ns.map V.int) ns := fun ns => by
          induction ns with
          | nil => exact .nil
          | cons n ns ih => exact .cons rfl ih
        exact one ws) (by rw [sizeLine_eq]; omega) (fun _ => rfl) (fun xx m H2 hx o2 M hM => ?_) (fun D H2 hD o2 e2 => ?_)
    · subst hx
      walk_at "go"
      refine ⟨_, _, rfl, .int _, ?_⟩
      walk_at "go"
      exact hM H2 (.refl _ _)
    have ea : ws.map (fun w => V.bl (decide (w ≥ 0))) = (ws.map fun w => decide (w ≥ 0)).map V.bl := by rw [List.map_map]; rfl
    rw [ea] at e2
    walk_at "go"
    refine ⟨D, _, rfl, .of e2, ?_⟩
    walk_at "go"
    refine br_nb (fun c2 => ?_) (fun c2 => ?_)
    · walk_at "go"
      refine q false H2 ⟨(fun z => by cases z), fun z => ?_⟩ (o1.trans o2)
      have h2 := (hb.mp z).2.1
      have : (ws.map fun w => decide (w ≥ 0)).all id = true := by
        rw [List.all_map, List.all_eq_true]
        intro w hw
        exact decide_eq_true (h2 w hw)
      rw [this] at c2
      cases c2
    have hnn : ∀ w ∈ ws, 0 ≤ w := fun w hw => by
      rw [List.all_map, List.all_eq_true] at c2
      exact of_decide_eq_true (c2 w hw)
    have o12 := o1.trans o2
    walk_at "go"
    refine ⟨p, g, T0, rfl, o12.seqT hp, G, tlt, cl, fun r H3 e3 o3 => ?_⟩
    generalize (bestM g T0).1 = N at *
    generalize (bestM g T0).2 = D0 at *
    have d0 := mok.d0
    have d1 := mok.d1
    walk_at "go"
    have hp3 := o3.seqT (o12.seqT hp)
    have ht3 := o3.seqT (o2.seqT ht)
    refine g_cut (fun σ H4 => H4 = H3 ∧ ∀ s c, s ≤ T0 → c ≤ s → (c : Int) * D0 + wAt ws (gAt g (s - c)) ≤ N + wAt ws s) ?_ (fun σ H4 hM => ?_)
    · have fal : ∀ s c, s ≤ T0 → c ≤ s → (c : Int) * D0 + wAt ws (gAt g (s - c)) > N + wAt ws s → Q (.bl false) H3 := fun s c hs hc hgt =>
        q false H3 ⟨(fun z => by cases z), fun z => by have := (hb.mp z).2.2 s c hs hc; omega⟩ (o12.trans o3)
      walk_at "go"
      rw [eT]
      refine forR_mk (fun s' σ H4 => ∃ x6 x7, σ = [some (.ref p), some (.int (s : Int)), some (.ref t), some (.int (T0 : Int)), some (.int N), some (.int D0), x6, x7, none] ∧ H4 = H3 ∧ ∀ s c, s < s' → c ≤ s → (c : Int) * D0 + wAt ws (gAt g (s - c)) ≤ N + wAt ws s) ⟨by omega, by omega⟩
        ⟨_, _, rfl, rfl, fun s c h => absurd h (Nat.not_lt_zero _)⟩ (fun s' σ H4 hs' hP => ?_) (fun σ H4 hP => ?_)
      rotate_left 1
      · obtain ⟨x6, x7, rfl, rfl, f1⟩ := hP
        rw [Int.toNat_natCast] at f1
        exact ⟨rfl, fun s c hs hc => f1 s c (by omega) hc⟩
      obtain ⟨x6, x7, rfl, rfl, f1⟩ := hP
      rw [Int.toNat_natCast] at hs'
      have es : ((s' : Nat) : Int) + 1 = ((s' + 1 : Nat) : Int) := by omega
      walk_at "go"
      rw [es]
      refine forR_mk (fun c' σ H5 => ∃ x7, σ = [some (.ref p), some (.int (s : Int)), some (.ref t), some (.int (T0 : Int)), some (.int N), some (.int D0), some (.int (s' : Int)), x7, none] ∧ H5 = H4 ∧ ∀ c, c < c' → (c : Int) * D0 + wAt ws (gAt g (s' - c)) ≤ N + wAt ws s') ⟨by omega, by omega⟩
        ⟨_, rfl, rfl, fun c h => absurd h (Nat.not_lt_zero _)⟩ (fun c' σ H5 hc' hP => ?_) (fun σ H5 hP => ?_)
      rotate_left 1
      · obtain ⟨x7, rfl, rfl, f2⟩ := hP
        rw [Int.toNat_natCast] at f2
        refine ⟨_, _, rfl, rfl, fun s c hs hc => ?_⟩
        by_cases e : s = s'
        · subst e
          exact f2 c (by omega)
        · exact f1 s c (by omega) hc
      obtain ⟨x7, rfl, rfl, f2⟩ := hP
      rw [Int.toNat_natCast] at hc'
      have esub : ((s' : Nat) : Int) - ((c' : Nat) : Int) = ((s' - c' : Nat) : Int) := by omega
      have hcl := cl (s' - c') (by omega)
      walk_at "go"
      rw [esub]
      refine g_ixT hp3 (gV_at (by omega)) ?_
      refine g_ixT ht3 (wAt_ix (by omega)) ?_
      walk_at "go"
      refine g_ixT ht3 (wAt_ix (by omega)) ?_
      walk_at "go"
      refine br_d (fun c3 => ?_) (fun c3 => ?_)
      · walk_at "go"
        exact fal s' c' (by omega) (by omega) c3
      · walk_at "go"
        refine ⟨_, rfl, rfl, fun c hc => ?_⟩
        by_cases e : c = c'
        · subst e
          omega
        · exact f2 c (by omega)
    obtain ⟨rfl, f1⟩ := hM
    walk_at "go"
    exact q true H4 ⟨fun _ => hb.mpr ⟨hl', hnn, f1⟩, fun _ => rfl⟩ (o12.trans o3)
theorem ok_is_worths (T : Txt P w K mg) : DefOk P w K mg base "is_worths" 5 ["growth", "start", "value"] (spIsWor K) := (okL_is_worths T).ok
end
end SH
end

section
/-! #### the walk's words -/
local macro_rules | `(tactic| walk_at "ne0") => `(tactic| first
  | assumption
  | (refine Ne.symm ?_; assumption))
local macro_rules | `(tactic| walk_at "ne") => `(tactic| first
  | assumption
  | (refine Ne.symm ?_; assumption)
  | (refine' L2.ne_of_none ?gx (by assumption); (case gx => walk_at "hp"))
  | (refine' Ne.symm (L2.ne_of_none ?gx (by assumption)); (case gx => walk_at "hp")))
local macro_rules | `(tactic| walk_at "hp") => `(tactic| first
  | assumption
  | exact L2.upd_same
  | (refine' SH.upd_new ?gh (by assumption); (case gh => walk_at "hp"))
  | (refine' (L2.upd_ne ?gn).trans ?gh; (case gn => walk_at "ne0"); (case gh => walk_at "hp"))
  | (refine' SH.Off.at (by assumption) ?gn ?gh; (case gn => walk_at "nin"); (case gh => walk_at "hp")))
local macro_rules | `(tactic| walk_at "nin") => `(tactic| first
  | exact SH.nin_nil
  | (refine SH.nin_cons ?_ ?_; (· walk_at "ne0"); (· walk_at "nin")))
local macro_rules | `(tactic| walk_at "sq") => `(tactic| first
  | assumption
  | (apply L2.SqL.of; (· walk_at "hp"))
  | (apply L2.SqT.of; (· walk_at "hp"))
  | (refine' SH.seqT_new ?gx (by assumption); (case gx => walk_at "sq"))
  | (refine' SH.seqL_new ?gx (by assumption); (case gx => walk_at "sq"))
  | (refine' SH.Off.seqT (by assumption) ?gx; (case gx => walk_at "sq"))
  | (refine' SH.Off.seqL (by assumption) ?gy ?gx; (case gx => walk_at "sq"); (case gy => walk_at "nin")))
local macro_rules | `(tactic| walk_at "kd") => `(tactic| first
  | assumption | exact SH.KdV.int _ | exact SH.KdV.bl _ | exact SH.KdV.str _ | exact SH.KdV.non
  | (apply SH.KdV.tup; (· walk_at "sq")) | (apply SH.KdV.lst; (· walk_at "sq")))
/-- a way that cannot be -/
local macro_rules | `(tactic| walk_at "no") => `(tactic| (exfalso; first | assumption | omega | contradiction | (simp_all; done)))
/-- one step -/
local macro_rules | `(tactic| walk_at "g1") => `(tactic| with_reducible first
  | refine SH.g_var (by with_unfolding_all rfl) ?_ | refine SH.g_c ?_ | refine SH.g_op ?_ | refine SH.g_un ?_ | refine SH.g_I0 ?_ | refine SH.g_U ?_
  | refine SH.g_eqI ?_ | refine SH.g_neI ?_ | refine SH.g_eqS ?_ | refine SH.g_neS ?_
  | refine SH.g_test ?_ | refine SH.g_B ?_ | refine SH.g_isB ?_ | refine SH.g_and ?_ | refine SH.g_or ?_ | refine SH.g_not ?_ | refine SH.g_andV ?_ | refine SH.g_orV ?_ | refine SH.g_notV ?_ | refine SH.g_ifE ?_ | refine SH.g_chain ?_
  | refine SH.g_nil ?_ | refine SH.g_cons ?_ | refine SH.g_tup ?_ | refine SH.g_lst ?_ | refine SH.g_call ?_ | refine SH.g_fld ?_ | refine SH.g_meth ?_ | refine SH.g_make ?_ | refine SH.g_cb ?_ | refine SH.g_bm ?_
  | refine SH.g_seq ?_ | refine SH.g_asg ?_ | refine SH.g_name ?_ | refine SH.g_drop ?_ | refine SH.g_ret ?_ | refine SH.g_retN ?_ | refine SH.g_next ?_ | refine SH.g_brk ?_ | refine SH.g_cnt ?_ | refine SH.g_ifs ?_ | refine SH.g_par ?_ | refine SH.g_par2 ?_ | refine SH.g_fldS ?_ | refine SH.g_raise ?_ | refine SH.g_rs ?_
  | refine SH.g_sub ?_ | refine SH.g_yes ?_ | refine SH.g_sl ?_ | refine SH.g_noPart ?_ | refine SH.g_part ?_ | refine SH.g_intO ?_ | refine SH.g_dget ?_ | refine SH.g_dput ?_ | refine SH.g_forR ?_ | refine SH.g_forL ?_ | refine SH.g_forT ?_ | refine SH.g_lcR ?_ | refine SH.g_lcL ?_ | refine SH.g_lcT ?_ | refine SH.g_gcons ?_ | refine SH.g_gnil ?_
  | refine SH.br_t ?_ | refine SH.br_f ?_
  | refine SH.g_int ?_ | refine SH.g_abs ?_ | refine SH.g_max2 ?_ | refine SH.g_min2 ?_)
local macro_rules | `(tactic| walk_at "g2") => `(tactic| first
  | walk_at "g1"
  | ((with_reducible refine' SH.g_isiInt ?ga ?gz); (case ga => walk_at "kd"))
  | ((with_reducible refine' SH.g_isiBool ?ga ?gz); (case ga => walk_at "kd"))
  | ((with_reducible refine' SH.g_isiStr ?ga ?gz); (case ga => walk_at "kd"))
  | ((with_reducible refine' SH.g_isiTup ?ga ?gz); (case ga => walk_at "kd"))
  | ((with_reducible refine' SH.g_ixT ?ga ?gb ?gz); (case ga => walk_at "sq"); (case gb => rfl))
  | ((with_reducible refine' SH.g_ixL ?ga ?gb ?gz); (case ga => walk_at "sq"); (case gb => first | rfl | (apply SH.atI_refs; assumption)))
  | ((with_reducible refine SH.br_F ?_ ?_); (· decide +kernel)) | ((with_reducible refine SH.br_T ?_ ?_); (· decide +kernel)) | ((with_reducible refine SH.br_NF ?_ ?_); (· decide +kernel)) | ((with_reducible refine SH.br_NT ?_ ?_); (· decide +kernel))
  | ((with_reducible refine' SH.g_gtup ?ga ?gb ?gz); (case ga => walk_at "sq"); (case gb => rfl))
  | ((with_reducible refine' SH.g_lenT ?ga ?gz); (case ga => walk_at "sq"))
  | ((with_reducible refine' SH.g_lenL ?ga ?gz); (case ga => walk_at "sq"))
  | ((with_reducible refine SH.g_mkT (SH.sz rfl) ?_); intro _ _)
  | ((with_reducible refine SH.g_mkL (SH.sz rfl) ?_); intro _ _)
  | ((with_reducible refine SH.g_dnew ?_); intro _ _)
  | ((with_reducible refine' SH.g_tupL ?ga ?gz); (case ga => walk_at "sq"); intro _ _)
  | ((with_reducible refine' SH.g_lstL ?ga ?gz); (case ga => walk_at "sq"); intro _ _)
  | ((with_reducible refine' SH.g_lstT ?ga ?gz); (case ga => walk_at "sq"); intro _ _)
  | ((with_reducible refine' SH.g_dgR ?ga ?gb ?gz); (case ga => walk_at "hp"); (case gb => walk_at "dv"))
  | ((with_reducible refine' SH.g_fldR ?ga ?gb ?gc ?gd ?gz); (case ga => walk_at "hp"); (case gb => walk_at "cl"); (case gc => walk_at "na"); (case gd => walk_at "fv"))
  | ((with_reducible refine' SH.g_insR ?ga ?gb ?gz); (case ga => walk_at "hp"); (case gb => walk_at "fn"))
  | ((with_reducible refine' SH.g_setL ?ga ?gb ?gz); (case ga => walk_at "hp"); (case gb => rfl))
  | ((with_reducible refine SH.g_I ?_ ?_); (· walk_at "ci"))
  | ((with_reducible refine' SH.g_slL ?ga ?gz); (case ga => walk_at "sq"); intro _ _)
  | ((with_reducible refine' SH.g_cat ?ga ?gb ?gc ?gz); (case ga => walk_at "hp"); (case gb => walk_at "hp"); (case gc => walk_at "ls"); intro _ _))
/-- the side conditions of numbers: a divisor, a factor -/
local macro_rules | `(tactic| walk_at "ci") => `(tactic| first
  | (show _ ≠ _; omega) | (show _ < _; omega) | (constructor <;> omega) | (refine Or.inr ⟨?_, ?_⟩ <;> (show _ < _; omega)) | (refine Or.inl ⟨?_, ?_⟩ <;> (show _ < _; omega)) | (refine ⟨?_, ?_, ?_⟩ <;> decide))
local macro_rules | `(tactic| walk_at "ls") => `(tactic| first | (show _ ≤ _; exact Nat.le_trans (by assumption) (by decide)) | (show _ ≤ _; exact Nat.le_trans (by simp; omega) (by decide : 1000 ≤ sizeLine)))
local macro_rules | `(tactic| walk_at "dv") => `(tactic| rfl)
local macro_rules | `(tactic| walk_at "fv") => `(tactic| rfl)
local macro_rules | `(tactic| walk_at "fn") => `(tactic| rfl)
local macro_rules | `(tactic| walk_at "cl") => `(tactic| assumption)
local macro_rules | `(tactic| walk_at "na") => `(tactic| assumption)
local macro_rules | `(tactic| walk_at "go") => `(tactic| repeat walk_at "g2")
/-- a way is split -/
local macro_rules | `(tactic| walk_at "br") => `(tactic| with_reducible first
  | refine SH.br_d (fun _ => ?_) (fun _ => ?_) | refine SH.br_nd (fun _ => ?_) (fun _ => ?_) | refine SH.br_b (fun _ => ?_) (fun _ => ?_))
/-- all ways -/
local macro_rules | `(tactic| walk_at "all") => `(tactic| repeat' first | walk_at "g2" | (walk_at "br" <;> try (walk_at "no")))
/-- a truth value is the other -/
local macro_rules | `(tactic| walk_at "bq") => `(tactic| first | rfl | (simp_all; done) | (simp_all; omega) | (simp only [decide_eq_true_eq, decide_eq_false_iff_not, Bool.and_eq_true, Bool.or_eq_true] at *; omega))
/-- what was tracked is as it was -/
local macro_rules | `(tactic| walk_at "of") => `(tactic| first
  | assumption
  | exact SH.Off.refl _ _
  | (refine' SH.Off.new2 ?gx (by assumption); (case gx => walk_at "of"))
  | (refine' SH.Off.mut ?gx (by assumption); (case gx => walk_at "of"))
  | (refine' SH.Off.trans' ?gx (by assumption) ?gy; (case gy => (intro _ h; (first | exact h | (simp at h; done) | (simp at h ⊢; simp [h]; done)))); (case gx => walk_at "of")))
namespace SH
open PySem PySem.Spec PyProof.Rows L2
/-! ### catches that lose nothing, plain -/
def tlF (g : List Nat) (ws : List Int) (N D : Int) (s : Nat) : List Nat := (List.range (s + 1)).filter fun c => decide ((c : Int) * D + wAt ws (gAt g (s - c)) = N + wAt ws s)
theorem tlF_mem {g : List Nat} {ws : List Int} {N D : Int} {s c : Nat} : c ∈ tlF g ws N D s ↔ c ≤ s ∧ (c : Int) * D + wAt ws (gAt g (s - c)) = N + wAt ws s := by
  unfold tlF
  rw [List.mem_filter, List.mem_range, decide_eq_true_eq]
  constructor <;> rintro ⟨a, b⟩ <;> exact ⟨by omega, b⟩
/-- a way along such catches -/
def tp (g : List Nat) (tls : Nat → List Nat) : Nat → List Nat → Prop
  | _, [] => True
  | s, c :: cs => c ∈ tls s ∧ tp g tls (gAt g (s - c)) cs
theorem tp_app {g : List Nat} {tls : Nat → List Nat} : ∀ (a : List Nat) {s : Nat} {b : List Nat}, tp g tls s (a ++ b) ↔ tp g tls s a ∧ tp g tls (run g s a) b
  | [], _, _ => ⟨fun h => ⟨trivial, h⟩, fun h => h.2⟩
  | c :: a, s, b => by
    show (c ∈ tls s ∧ tp g tls _ (a ++ b)) ↔ (c ∈ tls s ∧ tp g tls _ a) ∧ _
    rw [tp_app a]
    exact and_assoc.symm
theorem tp_ok {g : List Nat} {tls : Nat → List Nat} (h : ∀ s c, c ∈ tls s → c ≤ s) : ∀ (cs : List Nat) {s : Nat}, tp g tls s cs → okR g s cs
  | [], _, _ => trivial
  | c :: cs, s, p => ⟨h s c p.1, tp_ok h cs p.2⟩
theorem tp_wgt {g : List Nat} {ws : List Int} {N D : Int} : ∀ (cs : List Nat) {s : Nat}, tp g (tlF g ws N D) s cs → wgt N D cs + wAt ws (run g s cs) = wAt ws s
  | [], s, _ => by
    show 0 * D - ((0 : Nat) : Int) * N + wAt ws s = wAt ws s
    simp
  | c :: cs, s, p => by
    have h1 := (tlF_mem.mp p.1).2
    have h2 := tp_wgt cs p.2
    have e : wgt N D (c :: cs) = (c : Int) * D - N + wgt N D cs := by
      show ((c : Int) + sumN cs) * D - ((cs.length + 1 : Nat) : Int) * N = _
      unfold wgt
      rw [Int.add_mul, show ((cs.length + 1 : Nat) : Int) = (cs.length : Int) + 1 by omega, Int.add_mul, Int.one_mul]
      omega
    rw [e]
    show _ + wAt ws (run g (gAt g (s - c)) cs) = _
    omega
/-- a way back without a loss -/
structure WayOk (g : List Nat) (tls : Nat → List Nat) (s : Nat) (cs : List Nat) : Prop where
  ne : cs ≠ []
  len : cs.length ≤ 32
  tp : tp g tls s cs
  back : run g s cs = s
def NoWay (g : List Nat) (tls : Nat → List Nat) (s : Nat) : Prop := ∀ cs, cs ≠ [] → tp g tls s cs → run g s cs ≠ s
theorem closed_no {g : List Nat} {tls : Nat → List Nat} {s0 : Nat} {M : List Nat} (h : ∀ v ∈ M, ∀ c ∈ tls v, gAt g (v - c) ≠ s0 ∧ gAt g (v - c) ∈ M) : ∀ (cs : List Nat) {v : Nat}, v ∈ M → tp g tls v cs → cs ≠ [] → run g v cs ≠ s0
  | [], _, _, _, n => absurd rfl n
  | [c], v, hv, p, _ => (h v hv c p.1).1
  | c :: c' :: cs, v, hv, p, _ => closed_no h (c' :: cs) (h v hv c p.1).2 p.2 (by simp)
theorem MeanOk.way {g : List Nat} {T : Nat} {N D : Int} {ws : List Int} (m : MeanOk g T N D) (cl : ∀ l, l ≤ T → gAt g l ≤ T) (p : Pot g T N D (wAt ws)) : ∃ w, w ≤ T ∧ ¬ NoWay g (tlF g ws N D) w := by
  obtain ⟨w, cs, h1, h2, h3, h4, h5⟩ := m.cyc
  have key := p.tight cl cs h1 h3 (by rw [h4]; omega)
  have pth : ∀ (b a : List Nat), cs = a ++ b → tp g (tlF g ws N D) (run g w a) b := fun b => by
    induction b with
    | nil => intro a _; trivial
    | cons c b ih =>
      intro a e
      have ok := h3
      rw [e] at ok
      obtain ⟨_, o2⟩ := (okR_app _).mp ok
      refine ⟨tlF_mem.mpr ⟨o2.1, key a c b e⟩, ?_⟩
      have := ih (a ++ [c]) (by rw [e, List.append_assoc]; rfl)
      rw [run_app] at this
      exact this
  exact ⟨w, h1, fun no => no cs h2 (pth cs [] rfl) h4⟩
/-! #### the search for a way back -/
structure WbI (g : List Nat) (tls : Nat → List Nat) (T s0 : Nat) (kn : List (Nat × List Nat)) (nd : Nat) : Prop where
  le : nd ≤ kn.length
  top : ∀ x ∈ kn, x.1 ≤ T
  nodup : (kn.map (·.1)).Nodup
  path : ∀ (i : Nat) (v : Nat) (cs : List Nat), kn[i]? = some (v, cs) → tp g tls s0 cs ∧ run g s0 cs = v ∧ cs.length ≤ i
  has : s0 ∈ kn.map (·.1)
  done : ∀ (i : Nat) (v : Nat) (cs : List Nat), i < nd → kn[i]? = some (v, cs) → ∀ c ∈ tls v, gAt g (v - c) ≠ s0 ∧ gAt g (v - c) ∈ kn.map (·.1)
theorem WbI.len {g : List Nat} {tls : Nat → List Nat} {T s0 nd : Nat} {kn : List (Nat × List Nat)} (h : WbI g tls T s0 kn nd) : kn.length ≤ T + 1 := by
  have := pigeon (T + 1) (kn.map (·.1)) (fun x hx => by
    obtain ⟨y, hy, rfl⟩ := List.mem_map.mp hx
    have := h.top y hy
    omega) h.nodup
  rwa [List.length_map] at this
theorem WbI.start {g : List Nat} {tls : Nat → List Nat} {T s0 : Nat} (hs : s0 ≤ T) : WbI g tls T s0 [(s0, [])] 0 := by
  refine ⟨Nat.zero_le _, fun x hx => ?_, by simp, fun i v cs h => ?_, by simp, fun i v cs h => absurd h (Nat.not_lt_zero _)⟩
  · rw [List.mem_singleton.mp hx]; exact hs
  · cases i with
    | zero => cases h; exact ⟨trivial, rfl, Nat.le_refl _⟩
    | succ i => simp at h
theorem WbI.add {g : List Nat} {tls : Nat → List Nat} {T s0 nd i v c : Nat} {cs : List Nat} {kn : List (Nat × List Nat)} (h : WbI g tls T s0 kn nd) (hv : kn[i]? = some (v, cs)) (hc : c ∈ tls v) (ht : gAt g (v - c) ≤ T) (hn : gAt g (v - c) ∉ kn.map (·.1)) :
    WbI g tls T s0 (kn ++ [(gAt g (v - c), cs ++ [c])]) nd := by
  have hi := (List.getElem?_eq_some_iff.mp hv).1
  obtain ⟨p1, p2, p3⟩ := h.path i v cs hv
  refine ⟨by rw [List.length_append]; have := h.le; omega, fun x hx => ?_, ?_, fun j u ds hj => ?_, ?_, fun j u ds hj hu => ?_⟩
  · rcases List.mem_append.mp hx with hx | hx
    · exact h.top x hx
    · rw [List.mem_singleton.mp hx]; exact ht
  · rw [List.map_append, List.nodup_append]
    refine ⟨h.nodup, by simp, fun a ha b hb => ?_⟩
    have hb' : b = gAt g (v - c) := by simpa using hb
    rw [hb']
    exact fun e => hn (e ▸ ha)
  · by_cases l : j < kn.length
    · rw [List.getElem?_append_left l] at hj
      exact h.path j u ds hj
    · have : j = kn.length := by
        have := (List.getElem?_eq_some_iff.mp hj).1
        rw [List.length_append, List.length_singleton] at this
        omega
      subst this
      rw [List.getElem?_append_right (Nat.le_refl _), Nat.sub_self] at hj
      cases hj
      refine ⟨(tp_app _).mpr ⟨p1, by rw [p2]; exact ⟨hc, trivial⟩⟩, by rw [run_app, p2]; rfl, by rw [List.length_append, List.length_singleton]; omega⟩
  · rw [List.map_append]
    exact List.mem_append_left _ h.has
  · have l : j < kn.length := by have := h.le; omega
    rw [List.getElem?_append_left l] at hu
    intro c' hc'
    obtain ⟨q1, q2⟩ := h.done j u ds hj hu c' hc'
    exact ⟨q1, by rw [List.map_append]; exact List.mem_append_left _ q2⟩
theorem WbI.fin {g : List Nat} {tls : Nat → List Nat} {T s0 : Nat} {kn : List (Nat × List Nat)} (h : WbI g tls T s0 kn kn.length) : NoWay g tls s0 := by
  intro cs hne htp
  refine closed_no (M := kn.map (·.1)) (fun v hv c hc => ?_) cs h.has htp hne
  obtain ⟨x, hx, rfl⟩ := List.mem_map.mp hv
  obtain ⟨i, hi, e⟩ := List.mem_iff_getElem.mp hx
  exact h.done i x.1 x.2 hi (by rw [List.getElem?_eq_getElem hi, e]) c hc
/-! #### dicts of numbers -/
theorem valV_putI {kvs : List (Key × V)} {i j : Int} {v : V} : valV (putK kvs (Sum.inl i) v) (Sum.inl j) = if i = j then some v else valV kvs (Sum.inl j) := by
  have hk : ∀ {a b : Int}, (Sum.inl a : Key) = Sum.inl b ↔ a = b := fun {a b} => ⟨fun h => by injection h, fun h => by rw [h]⟩
  unfold putK
  split
  · rename_i c
    unfold valV
    induction kvs with
    | nil => simp at c
    | cons x l ih =>
      rw [List.map_cons, List.find?_cons, List.find?_cons]
      by_cases e : x.1 = Sum.inl i
      · rw [if_pos e]
        by_cases e2 : i = j
        · subst e2
          simp [e]
        · have n1 : ¬ x.1 = Sum.inl j := fun z => e2 (hk.mp (e.symm.trans z))
          simp only [n1, decide_false, if_neg e2]
          by_cases c2 : (l.any fun kv => decide (kv.1 = Sum.inl i)) = true
          · have := ih c2
            rw [if_neg e2] at this
            exact this
          · have e3 : l.map (fun kv => if kv.1 = Sum.inl i then (kv.1, v) else kv) = l := by
              refine (List.map_congr_left fun y hy => ?_).trans (List.map_id _)
              rw [if_neg fun z => c2 (List.any_eq_true.mpr ⟨y, hy, decide_eq_true z⟩)]
              rfl
            rw [e3]
      · rw [if_neg e]
        have c2 : (l.any fun kv => decide (kv.1 = Sum.inl i)) = true := by
          rw [List.any_cons, decide_eq_false e, Bool.false_or] at c
          exact c
        by_cases e2 : x.1 = Sum.inl j
        · have n1 : ¬ i = j := fun z => e (by rw [z]; exact e2)
          simp [e2, n1]
        · simp only [e2, decide_false]
          exact ih c2
  · rename_i c
    unfold valV
    rw [List.find?_append]
    by_cases e2 : i = j
    · subst e2
      have : kvs.find? (fun kv => decide (kv.1 = Sum.inl i)) = none := by
        rw [List.find?_eq_none]
        intro y hy z
        exact c (List.any_eq_true.mpr ⟨y, hy, z⟩)
      rw [this]
      simp
    · have : ([(Sum.inl i, v)] : List (Key × V)).find? (fun kv => decide (kv.1 = Sum.inl j)) = none := by
        rw [List.find?_cons, decide_eq_false fun z => e2 (hk.mp z)]
        rfl
      rw [this, if_neg e2, Option.or_none]
theorem putK_lenI {kvs : List (Key × V)} {i : Int} {v : V} : (putK kvs (Sum.inl i) v).length ≤ kvs.length + 1 := by
  unfold putK
  split
  · rw [List.length_map]; omega
  · rw [List.length_append]; exact Nat.le_refl _
end SH
end

section
/-! #### the walk's words -/
local macro_rules | `(tactic| walk_at "ne0") => `(tactic| first
  | assumption
  | (refine Ne.symm ?_; assumption))
local macro_rules | `(tactic| walk_at "ne") => `(tactic| first
  | assumption
  | (refine Ne.symm ?_; assumption)
  | (refine' L2.ne_of_none ?gx (by assumption); (case gx => walk_at "hp"))
  | (refine' Ne.symm (L2.ne_of_none ?gx (by assumption)); (case gx => walk_at "hp")))
local macro_rules | `(tactic| walk_at "hp") => `(tactic| first
  | assumption
  | exact L2.upd_same
  | (refine' SH.upd_new ?gh (by assumption); (case gh => walk_at "hp"))
  | (refine' (L2.upd_ne ?gn).trans ?gh; (case gn => walk_at "ne0"); (case gh => walk_at "hp"))
  | (refine' SH.Off.at (by assumption) ?gn ?gh; (case gn => walk_at "nin"); (case gh => walk_at "hp")))
local macro_rules | `(tactic| walk_at "nin") => `(tactic| first
  | exact SH.nin_nil
  | (refine SH.nin_cons ?_ ?_; (· walk_at "ne0"); (· walk_at "nin")))
local macro_rules | `(tactic| walk_at "sq") => `(tactic| first
  | assumption
  | (apply L2.SqL.of; (· walk_at "hp"))
  | (apply L2.SqT.of; (· walk_at "hp"))
  | (refine' SH.seqT_new ?gx (by assumption); (case gx => walk_at "sq"))
  | (refine' SH.seqL_new ?gx (by assumption); (case gx => walk_at "sq"))
  | (refine' SH.Off.seqT (by assumption) ?gx; (case gx => walk_at "sq"))
  | (refine' SH.Off.seqL (by assumption) ?gy ?gx; (case gx => walk_at "sq"); (case gy => walk_at "nin")))
local macro_rules | `(tactic| walk_at "kd") => `(tactic| first
  | assumption | exact SH.KdV.int _ | exact SH.KdV.bl _ | exact SH.KdV.str _ | exact SH.KdV.non
  | (apply SH.KdV.tup; (· walk_at "sq")) | (apply SH.KdV.lst; (· walk_at "sq")))
/-- a way that cannot be -/
local macro_rules | `(tactic| walk_at "no") => `(tactic| (exfalso; first | assumption | omega | contradiction | (simp_all; done)))
/-- one step -/
local macro_rules | `(tactic| walk_at "g1") => `(tactic| with_reducible first
  | refine SH.g_var (by with_unfolding_all rfl) ?_ | refine SH.g_c ?_ | refine SH.g_op ?_ | refine SH.g_un ?_ | refine SH.g_I0 ?_ | refine SH.g_U ?_
  | refine SH.g_eqI ?_ | refine SH.g_neI ?_ | refine SH.g_eqS ?_ | refine SH.g_neS ?_
  | refine SH.g_test ?_ | refine SH.g_B ?_ | refine SH.g_isB ?_ | refine SH.g_and ?_ | refine SH.g_or ?_ | refine SH.g_not ?_ | refine SH.g_andV ?_ | refine SH.g_orV ?_ | refine SH.g_notV ?_ | refine SH.g_ifE ?_ | refine SH.g_chain ?_
  | refine SH.g_nil ?_ | refine SH.g_cons ?_ | refine SH.g_tup ?_ | refine SH.g_lst ?_ | refine SH.g_call ?_ | refine SH.g_fld ?_ | refine SH.g_meth ?_ | refine SH.g_make ?_ | refine SH.g_cb ?_ | refine SH.g_bm ?_
  | refine SH.g_seq ?_ | refine SH.g_asg ?_ | refine SH.g_name ?_ | refine SH.g_drop ?_ | refine SH.g_ret ?_ | refine SH.g_retN ?_ | refine SH.g_next ?_ | refine SH.g_brk ?_ | refine SH.g_cnt ?_ | refine SH.g_ifs ?_ | refine SH.g_par ?_ | refine SH.g_par2 ?_ | refine SH.g_fldS ?_ | refine SH.g_raise ?_ | refine SH.g_rs ?_
  | refine SH.g_sub ?_ | refine SH.g_yes ?_ | refine SH.g_sl ?_ | refine SH.g_noPart ?_ | refine SH.g_part ?_ | refine SH.g_intO ?_ | refine SH.g_dget ?_ | refine SH.g_dput ?_ | refine SH.g_forR ?_ | refine SH.g_forL ?_ | refine SH.g_forT ?_ | refine SH.g_lcR ?_ | refine SH.g_lcL ?_ | refine SH.g_lcT ?_ | refine SH.g_gcons ?_ | refine SH.g_gnil ?_
  | refine SH.br_t ?_ | refine SH.br_f ?_
  | refine SH.g_int ?_ | refine SH.g_abs ?_ | refine SH.g_max2 ?_ | refine SH.g_min2 ?_)
local macro_rules | `(tactic| walk_at "g2") => `(tactic| first
  | walk_at "g1"
  | ((with_reducible refine' SH.g_isiInt ?ga ?gz); (case ga => walk_at "kd"))
  | ((with_reducible refine' SH.g_isiBool ?ga ?gz); (case ga => walk_at "kd"))
  | ((with_reducible refine' SH.g_isiStr ?ga ?gz); (case ga => walk_at "kd"))
  | ((with_reducible refine' SH.g_isiTup ?ga ?gz); (case ga => walk_at "kd"))
  | ((with_reducible refine' SH.g_ixT ?ga ?gb ?gz); (case ga => walk_at "sq"); (case gb => rfl))
  | ((with_reducible refine' SH.g_ixL ?ga ?gb ?gz); (case ga => walk_at "sq"); (case gb => first | rfl | (apply SH.atI_refs; assumption)))
  | ((with_reducible refine SH.br_F ?_ ?_); (· decide +kernel)) | ((with_reducible refine SH.br_T ?_ ?_); (· decide +kernel)) | ((with_reducible refine SH.br_NF ?_ ?_); (· decide +kernel)) | ((with_reducible refine SH.br_NT ?_ ?_); (· decide +kernel))
  | ((with_reducible refine' SH.g_gtup ?ga ?gb ?gz); (case ga => walk_at "sq"); (case gb => rfl))
  | ((with_reducible refine' SH.g_lenT ?ga ?gz); (case ga => walk_at "sq"))
  | ((with_reducible refine' SH.g_lenL ?ga ?gz); (case ga => walk_at "sq"))
  | ((with_reducible refine SH.g_mkT (SH.sz rfl) ?_); intro _ _)
  | ((with_reducible refine SH.g_mkL (SH.sz rfl) ?_); intro _ _)
  | ((with_reducible refine SH.g_dnew ?_); intro _ _)
  | ((with_reducible refine' SH.g_tupL ?ga ?gz); (case ga => walk_at "sq"); intro _ _)
  | ((with_reducible refine' SH.g_lstL ?ga ?gz); (case ga => walk_at "sq"); intro _ _)
  | ((with_reducible refine' SH.g_lstT ?ga ?gz); (case ga => walk_at "sq"); intro _ _)
  | ((with_reducible refine' SH.g_dgR ?ga ?gb ?gz); (case ga => walk_at "hp"); (case gb => walk_at "dv"))
  | ((with_reducible refine' SH.g_fldR ?ga ?gb ?gc ?gd ?gz); (case ga => walk_at "hp"); (case gb => walk_at "cl"); (case gc => walk_at "na"); (case gd => walk_at "fv"))
  | ((with_reducible refine' SH.g_insR ?ga ?gb ?gz); (case ga => walk_at "hp"); (case gb => walk_at "fn"))
  | ((with_reducible refine' SH.g_setL ?ga ?gb ?gz); (case ga => walk_at "hp"); (case gb => rfl))
  | ((with_reducible refine SH.g_I ?_ ?_); (· walk_at "ci"))
  | ((with_reducible refine' SH.g_slL ?ga ?gz); (case ga => walk_at "sq"); intro _ _)
  | ((with_reducible refine' SH.g_cat ?ga ?gb ?gc ?gz); (case ga => walk_at "hp"); (case gb => walk_at "hp"); (case gc => walk_at "ls"); intro _ _))
/-- the side conditions of numbers: a divisor, a factor -/
local macro_rules | `(tactic| walk_at "ci") => `(tactic| first
  | (show _ ≠ _; omega) | (show _ < _; omega) | (constructor <;> omega) | (refine Or.inr ⟨?_, ?_⟩ <;> (show _ < _; omega)) | (refine Or.inl ⟨?_, ?_⟩ <;> (show _ < _; omega)) | (refine ⟨?_, ?_, ?_⟩ <;> decide))
local macro_rules | `(tactic| walk_at "ls") => `(tactic| first | (show _ ≤ _; exact Nat.le_trans (by assumption) (by decide)) | (show _ ≤ _; exact Nat.le_trans (by simp; omega) (by decide : 1000 ≤ sizeLine)))
local macro_rules | `(tactic| walk_at "dv") => `(tactic| rfl)
local macro_rules | `(tactic| walk_at "fv") => `(tactic| rfl)
local macro_rules | `(tactic| walk_at "fn") => `(tactic| rfl)
local macro_rules | `(tactic| walk_at "cl") => `(tactic| assumption)
local macro_rules | `(tactic| walk_at "na") => `(tactic| assumption)
local macro_rules | `(tactic| walk_at "go") => `(tactic| repeat walk_at "g2")
/-- a way is split -/
local macro_rules | `(tactic| walk_at "br") => `(tactic| with_reducible first
  | refine SH.br_d (fun _ => ?_) (fun _ => ?_) | refine SH.br_nd (fun _ => ?_) (fun _ => ?_) | refine SH.br_b (fun _ => ?_) (fun _ => ?_))
/-- all ways -/
local macro_rules | `(tactic| walk_at "all") => `(tactic| repeat' first | walk_at "g2" | (walk_at "br" <;> try (walk_at "no")))
/-- a truth value is the other -/
local macro_rules | `(tactic| walk_at "bq") => `(tactic| first | rfl | (simp_all; done) | (simp_all; omega) | (simp only [decide_eq_true_eq, decide_eq_false_iff_not, Bool.and_eq_true, Bool.or_eq_true] at *; omega))
/-- what was tracked is as it was -/
local macro_rules | `(tactic| walk_at "of") => `(tactic| first
  | assumption
  | exact SH.Off.refl _ _
  | (refine' SH.Off.new2 ?gx (by assumption); (case gx => walk_at "of"))
  | (refine' SH.Off.mut ?gx (by assumption); (case gx => walk_at "of"))
  | (refine' SH.Off.trans' ?gx (by assumption) ?gy; (case gy => (intro _ h; (first | exact h | (simp at h; done) | (simp at h ⊢; simp [h]; done)))); (case gx => walk_at "of")))
/-- kinds; parts of tuples; stars -/
local macro_rules | `(tactic| walk_at "g2") => `(tactic| first
  | (with_reducible first | refine SH.br_ntt ?_ | refine SH.br_ntf ?_ | refine SH.br_k ?_ | refine SH.br_nk ?_ | refine SH.g_star ?_ | refine SH.g_forR2 ?_ | refine SH.g_lcZ ?_ | refine SH.g_enL ?_)
  | ((with_reducible refine' SH.g_slA ?ga ?gz); (case ga => walk_at "sq"); intro _ _ _ _)
  | ((with_reducible refine' SH.g_app' ?ga ?gb ?gz); (case ga => walk_at "hp"); (case gb => walk_at "lt"); intro _ _ _)
  | ((with_reducible refine' SH.g_bml ?ga ?gz); (case ga => walk_at "sq"))
  | ((with_reducible refine' SH.g_popF ?ga ?gz); (case ga => walk_at "hp"); intro _ _ _)
  | (with_reducible first | refine SH.g_pnil ?_ | refine SH.g_pcons ?_ | (refine SH.g_disp ?_; intro _ _))
  | ((with_reducible refine' SH.g_kw ?gz))
  | ((with_reducible refine SH.g_kwR rfl ?_)))
local macro_rules | `(tactic| walk_at "lt") => `(tactic| (rw [PySem.sizeLine_eq]; omega))
namespace SH
open PySem PySem.Spec PyProof.Rows L2
def StpA (H : Hp) (d : Addr) (n : Nat) (tls : Nat → List Nat) : Prop := ∃ kvs, H d = some (.dK kvs) ∧ kvs.length ≤ n ∧ ∀ s, s < n → ∃ a, valV kvs (Sum.inl (s : Int)) = some (.ref a) ∧ H a = some (.lst (gV (tls s))) ∧ a ≠ d
theorem StpA.off {H H' : Hp} {S : List Addr} {d : Addr} {n : Nat} {tls : Nat → List Nat} (h : StpA H d n tls) (o : Off S H H') (hS : ∀ a ∈ S, H a = none) : StpA H' d n tls := by
  obtain ⟨kvs, h1, h2, h3⟩ := h
  have k : ∀ {a : Addr} {o1 : HO}, H a = some o1 → H' a = some o1 := fun {a o1} e => o.at (fun z => by rw [hS a z] at e; cases e) e
  refine ⟨kvs, k h1, h2, fun s hs => ?_⟩
  obtain ⟨a, g1, g2, g3⟩ := h3 s hs
  exact ⟨a, g1, k g2, g3⟩
def spTight (K : PySem.W.Frag) : Sp := fun vs H Q _ => ∃ p g T m N D, vs = [.ref p, .int ((T : Nat) : Int), .ref m] ∧ SqT K H p (gV g) ∧ GrOk g ∧ T < g.length ∧ (∀ l, l ≤ T → gAt g l ≤ T) ∧ MeanA K H m g T N D ∧
  ∀ d H' ws, StpA H' d (T + 1) (tlF g ws N D) → Pot g T N D (wAt ws) → Off [] H H' → Q (.ref d) H'
theorem gV_snoc (l : List Nat) (c : Nat) : gV (l ++ [c]) = gV l ++ [.int (c : Int)] := by
  unfold gV gI
  rw [List.map_append, List.map_append]
  rfl
section
variable {P : Program} {w : World} {K : PySem.W.Frag} {mg : Str → Option Value} {base : Heap}
theorem ok_tight_steps (T : Txt P w K mg) : DefOk P w K mg base "tight_steps" 2 ["growth", "last", "mean"] (spTight K) := by
  refine T.d_tight_steps.ok sc_tight_steps (fun _ _ _ _ _ _ us hl => match us, hl with | [_, _, _], _ => rfl) (fun vs H Q E h => ?_) (fun f cdv A outer s H vs Q E hr h => ?_)
  · obtain ⟨p, g, T0, m, N, D, rfl, _⟩ := h
    rfl
  · obtain ⟨p, g, T0, m, N, D, rfl, hp, G, hT, cl, hm, q⟩ := h
    have B := T.blt
    have hu := hu_of hr
    have G_worths_of := ok_worths_of (base := base) T
    refine ⟨_, (pss_cons (ps_par (i := 3) (j := 4) (by rfl) sc_tight_steps.nd rfl rfl (by decide) rfl rfl (pa_cons (pe_df G_worths_of (hr.mono (by decide)) (L2N.passes_call (L2N.takes_of rfl rfl rfl rfl) fun _ _ _ _ z => z) (pa_cons (pv 0) (pa_cons (pv 1) (pa_cons (pv 2) pa_nil)))) (pa_cons pe_dnewK pa_nil)) (by rfl))
  (pss_cons (ps_for (passes_of rfl) rfl (pi_range1 rfl B.b_range (pa_cons (pe_op op_add (pv 1) pe_int) pa_nil)) (pg_name (i := 5) sc_tight_steps.nd rfl (by first | exact Or.inl rfl | exact Or.inr rfl))
    (pss_cons (ps_dput hu (pv 4) (pv 5) (pe_lst pa_nil) rfl)
  (pss_one (ps_for (passes_of rfl) rfl (pi_range1 rfl B.b_range (pa_cons (pe_op op_add (pv 5) pe_int) pa_nil)) (pg_name (i := 6) sc_tight_steps.nd rfl (by first | exact Or.inl rfl | exact Or.inr rfl))
    (pss_one (ps_if (pt_cmpR op_eq (pe_op op_add (pe_op op_mul (pv 6) (pe_ix (ix_tupK (K := K) rfl) (pv 2) pe_int (fun _ _ => rfl))) (pe_ix (ix_listK (K := K) rfl) (pv 3) (pe_ix (ix_tupK (K := K) rfl) (pv 0) (pe_op op_sub (pv 5) (pv 6)) (fun _ _ => rfl)) (fun _ _ => rfl))) (pe_op op_add (pe_ix (ix_tupK (K := K) rfl) (pv 2) pe_int (fun _ _ => rfl)) (pe_ix (ix_listK (K := K) rfl) (pv 3) (pv 5) (fun _ _ => rfl))) (nomark _))
    (pss_one (ps_expr (pe_bmK (K := K) rfl PySem.F.plainAttrs_list PySem.F.slot_list_append PySem.F.type_list_append mt_append (pe_dget hu (pv 4) (pv 5) (fun _ _ => rfl)) (pa_cons (pv 6) pa_nil))))
    pss_nil))))))
  (pss_one (ps_ret (pv 4))))), ?_⟩
    have n1 := G.n1
    have eT : ((T0 : Nat) : Int) + 1 = ((T0 + 1 : Nat) : Int) := by omega
    walk_at "go"
    refine ⟨p, g, T0, m, N, D, rfl, hp, G, hT, cl, hm, fun F H1 ws e1 l1 pot o1 => ?_⟩
    walk_at "go"
    rename_i d hd
    have nFd : F ≠ d := ne_of_none e1 hd
    have hd0 : H d = none := o1.back hd
    have o2 : Off [] H1 (upd H1 d (.dK [])) := .new hd
    rw [eT]
    refine forR_mk (fun s σ H2 => ∃ x5 x6, σ = [some (.ref p), some (.int (T0 : Int)), some (.ref m), some (.ref F), some (.ref d), x5, x6] ∧ StpA H2 d s (tlF g ws N D) ∧ H2 F = some (.lst (ws.map V.int)) ∧ Off [] H H2) ⟨by omega, by omega⟩
      ⟨_, _, rfl, ⟨[], upd_same, Nat.le_refl _, fun s h => absurd h (Nat.not_lt_zero _)⟩, o2.at nin_nil e1, o1.trans o2⟩ (fun s σ H2 hs hP => ?_) (fun σ H2 hP => ?_)
    rotate_left 1
    · obtain ⟨x5, x6, rfl, f1, f2, f3⟩ := hP
      rw [Int.toNat_natCast] at f1
      walk_at "go"
      exact q d H2 ws f1 pot f3
    obtain ⟨x5, x6, rfl, ⟨kvs, f1, f2, f4⟩, f5, f3⟩ := hP
    rw [Int.toNat_natCast] at hs
    have es : ((s : Nat) : Int) + 1 = ((s + 1 : Nat) : Int) := by omega
    walk_at "go"
    rename_i L hL
    have oL : Off [] H2 (upd H2 L (.lst [])) := .new hL
    have nLd : L ≠ d := fun z => by rw [z, f1] at hL; cases hL
    have nLF : L ≠ F := fun z => by rw [z, f5] at hL; cases hL
    have hL0 : H L = none := f3.back hL
    refine g_dpI (oL.at nin_nil f1) (by rw [sizeLine_eq]; omega) fun H3 e3 o3 => ?_
    have eL3 : H3 L = some (.lst []) := o3.at (by simpa using nLd) upd_same
    have eF3 : H3 F = some (.lst (ws.map V.int)) := o3.at (by simpa using nFd) (oL.at nin_nil f5)
    walk_at "go"
    rw [es]
    have hv : ∀ j : Int, valV (putK kvs (Sum.inl (s : Int)) (.ref L)) (Sum.inl j) = if (s : Int) = j then some (.ref L) else valV kvs (Sum.inl j) := fun j => valV_putI
    refine forR_mk (fun c σ H4 => ∃ x6, σ = [some (.ref p), some (.int (T0 : Int)), some (.ref m), some (.ref F), some (.ref d), some (.int (s : Int)), x6] ∧ H4 L = some (.lst (gV ((List.range c).filter fun (c : Nat) => decide ((c : Int) * D + wAt ws (gAt g (s - c)) = N + wAt ws s)))) ∧ Off [L] H3 H4) ⟨by omega, by omega⟩
      ⟨_, rfl, eL3, .refl _ _⟩ (fun c σ H4 hc hP => ?_) (fun σ H4 hP => ?_)
    rotate_left 1
    · obtain ⟨x6, rfl, g1, g2⟩ := hP
      rw [Int.toNat_natCast] at g1
      refine ⟨_, _, rfl, ⟨_, g2.at (by simpa using nLd.symm) e3, Nat.le_trans putK_lenI (by omega), fun s' hs' => ?_⟩, g2.at (by simpa using nLF.symm) eF3, ((f3.trans oL).mutA o3 hd0).mutA g2 hL0⟩
      rw [hv]
      by_cases e : s' = s
      · subst e
        exact ⟨L, by rw [if_pos rfl], g1, nLd⟩
      · obtain ⟨a, k1, k2, k3⟩ := f4 s' (by omega)
        have naL : a ≠ L := ne_of_none k2 hL
        exact ⟨a, by rw [if_neg (by omega)]; exact k1, g2.at (by simpa using naL) (o3.at (by simpa using k3) (oL.at nin_nil k2)), k3⟩
    obtain ⟨x6, rfl, g1, g2⟩ := hP
    rw [Int.toNat_natCast] at hc
    have o4 := ((f3.trans oL).mutA o3 hd0).mutA g2 hL0
    have hp4 := o4.seqT hp
    have hm4 := o4.seqT hm.at_
    have eF4 := g2.at (by simpa using nLF.symm) eF3
    have ed4 := g2.at (by simpa using nLd.symm) e3
    have esub : ((s : Nat) : Int) - ((c : Nat) : Int) = ((s - c : Nat) : Int) := by omega
    have hcl := cl (s - c) (by omega)
    have erange : (List.range (c + 1)).filter (fun (c : Nat) => decide ((c : Int) * D + wAt ws (gAt g (s - c)) = N + wAt ws s)) = (List.range c).filter (fun (c : Nat) => decide ((c : Int) * D + wAt ws (gAt g (s - c)) = N + wAt ws s)) ++ (if (c : Int) * D + wAt ws (gAt g (s - c)) = N + wAt ws s then [c] else []) := by
      rw [List.range_succ, List.filter_append]
      congr 1
      by_cases h : (c : Int) * D + wAt ws (gAt g (s - c)) = N + wAt ws s
      · rw [if_pos h]; simp [h]
      · rw [if_neg h]; simp [h]
    walk_at "go"
    rw [esub]
    refine g_ixT hp4 (gV_at (by omega)) ?_
    refine g_ixL (.of eF4) (wAt_ix (by omega)) ?_
    walk_at "go"
    refine g_ixL (.of eF4) (wAt_ix (by omega)) ?_
    walk_at "go"
    refine br_d (fun c1 => ?_) (fun c1 => ?_)
    · walk_at "go"
      refine g_dgI ed4 (by rw [hv, if_pos rfl]) ?_
      have glen : (gV ((List.range c).filter fun (c : Nat) => decide ((c : Int) * D + wAt ws (gAt g (s - c)) = N + wAt ws s))).length ≤ 40 := by
        rw [gV_len]
        have := List.length_filter_le (fun c : Nat => decide ((c : Int) * D + wAt ws (gAt g (s - c)) = N + wAt ws s)) (List.range c)
        rw [List.length_range] at this
        omega
      walk_at "go"
      rename_i H5 e5 o5
      refine ⟨_, rfl, ?_, g2.trans o5⟩
      rw [erange, if_pos c1, gV_snoc]
      exact e5
    · walk_at "go"
      refine ⟨_, rfl, ?_, g2⟩
      rw [erange, if_neg c1, List.append_nil]
      exact g1
end
end SH
end

section
/-! #### the walk's words -/
local macro_rules | `(tactic| walk_at "ne0") => `(tactic| first
  | assumption
  | (refine Ne.symm ?_; assumption))
local macro_rules | `(tactic| walk_at "ne") => `(tactic| first
  | assumption
  | (refine Ne.symm ?_; assumption)
  | (refine' L2.ne_of_none ?gx (by assumption); (case gx => walk_at "hp"))
  | (refine' Ne.symm (L2.ne_of_none ?gx (by assumption)); (case gx => walk_at "hp")))
local macro_rules | `(tactic| walk_at "hp") => `(tactic| first
  | assumption
  | exact L2.upd_same
  | (refine' SH.upd_new ?gh (by assumption); (case gh => walk_at "hp"))
  | (refine' (L2.upd_ne ?gn).trans ?gh; (case gn => walk_at "ne0"); (case gh => walk_at "hp"))
  | (refine' SH.Off.at (by assumption) ?gn ?gh; (case gn => walk_at "nin"); (case gh => walk_at "hp")))
local macro_rules | `(tactic| walk_at "nin") => `(tactic| first
  | exact SH.nin_nil
  | (refine SH.nin_cons ?_ ?_; (· walk_at "ne0"); (· walk_at "nin")))
local macro_rules | `(tactic| walk_at "sq") => `(tactic| first
  | assumption
  | (apply L2.SqL.of; (· walk_at "hp"))
  | (apply L2.SqT.of; (· walk_at "hp"))
  | (refine' SH.seqT_new ?gx (by assumption); (case gx => walk_at "sq"))
  | (refine' SH.seqL_new ?gx (by assumption); (case gx => walk_at "sq"))
  | (refine' SH.Off.seqT (by assumption) ?gx; (case gx => walk_at "sq"))
  | (refine' SH.Off.seqL (by assumption) ?gy ?gx; (case gx => walk_at "sq"); (case gy => walk_at "nin")))
local macro_rules | `(tactic| walk_at "kd") => `(tactic| first
  | assumption | exact SH.KdV.int _ | exact SH.KdV.bl _ | exact SH.KdV.str _ | exact SH.KdV.non
  | (apply SH.KdV.tup; (· walk_at "sq")) | (apply SH.KdV.lst; (· walk_at "sq")))
/-- a way that cannot be -/
local macro_rules | `(tactic| walk_at "no") => `(tactic| (exfalso; first | assumption | omega | contradiction | (simp_all; done)))
/-- one step -/
local macro_rules | `(tactic| walk_at "g1") => `(tactic| with_reducible first
  | refine SH.g_var (by with_unfolding_all rfl) ?_ | refine SH.g_c ?_ | refine SH.g_op ?_ | refine SH.g_un ?_ | refine SH.g_I0 ?_ | refine SH.g_U ?_
  | refine SH.g_eqI ?_ | refine SH.g_neI ?_ | refine SH.g_eqS ?_ | refine SH.g_neS ?_
  | refine SH.g_test ?_ | refine SH.g_B ?_ | refine SH.g_isB ?_ | refine SH.g_and ?_ | refine SH.g_or ?_ | refine SH.g_not ?_ | refine SH.g_andV ?_ | refine SH.g_orV ?_ | refine SH.g_notV ?_ | refine SH.g_ifE ?_ | refine SH.g_chain ?_
  | refine SH.g_nil ?_ | refine SH.g_cons ?_ | refine SH.g_tup ?_ | refine SH.g_lst ?_ | refine SH.g_call ?_ | refine SH.g_fld ?_ | refine SH.g_meth ?_ | refine SH.g_make ?_ | refine SH.g_cb ?_ | refine SH.g_bm ?_
  | refine SH.g_seq ?_ | refine SH.g_asg ?_ | refine SH.g_name ?_ | refine SH.g_drop ?_ | refine SH.g_ret ?_ | refine SH.g_retN ?_ | refine SH.g_next ?_ | refine SH.g_brk ?_ | refine SH.g_cnt ?_ | refine SH.g_ifs ?_ | refine SH.g_par ?_ | refine SH.g_par2 ?_ | refine SH.g_fldS ?_ | refine SH.g_raise ?_ | refine SH.g_rs ?_
  | refine SH.g_sub ?_ | refine SH.g_yes ?_ | refine SH.g_sl ?_ | refine SH.g_noPart ?_ | refine SH.g_part ?_ | refine SH.g_intO ?_ | refine SH.g_dget ?_ | refine SH.g_dput ?_ | refine SH.g_forR ?_ | refine SH.g_forL ?_ | refine SH.g_forT ?_ | refine SH.g_lcR ?_ | refine SH.g_lcL ?_ | refine SH.g_lcT ?_ | refine SH.g_gcons ?_ | refine SH.g_gnil ?_
  | refine SH.br_t ?_ | refine SH.br_f ?_
  | refine SH.g_int ?_ | refine SH.g_abs ?_ | refine SH.g_max2 ?_ | refine SH.g_min2 ?_)
local macro_rules | `(tactic| walk_at "g2") => `(tactic| first
  | walk_at "g1"
  | ((with_reducible refine' SH.g_isiInt ?ga ?gz); (case ga => walk_at "kd"))
  | ((with_reducible refine' SH.g_isiBool ?ga ?gz); (case ga => walk_at "kd"))
  | ((with_reducible refine' SH.g_isiStr ?ga ?gz); (case ga => walk_at "kd"))
  | ((with_reducible refine' SH.g_isiTup ?ga ?gz); (case ga => walk_at "kd"))
  | ((with_reducible refine' SH.g_ixT ?ga ?gb ?gz); (case ga => walk_at "sq"); (case gb => rfl))
  | ((with_reducible refine' SH.g_ixL ?ga ?gb ?gz); (case ga => walk_at "sq"); (case gb => first | rfl | (apply SH.atI_refs; assumption)))
  | ((with_reducible refine SH.br_F ?_ ?_); (· decide +kernel)) | ((with_reducible refine SH.br_T ?_ ?_); (· decide +kernel)) | ((with_reducible refine SH.br_NF ?_ ?_); (· decide +kernel)) | ((with_reducible refine SH.br_NT ?_ ?_); (· decide +kernel))
  | ((with_reducible refine' SH.g_gtup ?ga ?gb ?gz); (case ga => walk_at "sq"); (case gb => rfl))
  | ((with_reducible refine' SH.g_lenT ?ga ?gz); (case ga => walk_at "sq"))
  | ((with_reducible refine' SH.g_lenL ?ga ?gz); (case ga => walk_at "sq"))
  | ((with_reducible refine SH.g_mkT (SH.sz rfl) ?_); intro _ _)
  | ((with_reducible refine SH.g_mkL (SH.sz rfl) ?_); intro _ _)
  | ((with_reducible refine SH.g_dnew ?_); intro _ _)
  | ((with_reducible refine' SH.g_tupL ?ga ?gz); (case ga => walk_at "sq"); intro _ _)
  | ((with_reducible refine' SH.g_lstL ?ga ?gz); (case ga => walk_at "sq"); intro _ _)
  | ((with_reducible refine' SH.g_lstT ?ga ?gz); (case ga => walk_at "sq"); intro _ _)
  | ((with_reducible refine' SH.g_dgR ?ga ?gb ?gz); (case ga => walk_at "hp"); (case gb => walk_at "dv"))
  | ((with_reducible refine' SH.g_fldR ?ga ?gb ?gc ?gd ?gz); (case ga => walk_at "hp"); (case gb => walk_at "cl"); (case gc => walk_at "na"); (case gd => walk_at "fv"))
  | ((with_reducible refine' SH.g_insR ?ga ?gb ?gz); (case ga => walk_at "hp"); (case gb => walk_at "fn"))
  | ((with_reducible refine' SH.g_setL ?ga ?gb ?gz); (case ga => walk_at "hp"); (case gb => rfl))
  | ((with_reducible refine SH.g_I ?_ ?_); (· walk_at "ci"))
  | ((with_reducible refine' SH.g_slL ?ga ?gz); (case ga => walk_at "sq"); intro _ _)
  | ((with_reducible refine' SH.g_cat ?ga ?gb ?gc ?gz); (case ga => walk_at "hp"); (case gb => walk_at "hp"); (case gc => walk_at "ls"); intro _ _))
/-- the side conditions of numbers: a divisor, a factor -/
local macro_rules | `(tactic| walk_at "ci") => `(tactic| first
  | (show _ ≠ _; omega) | (show _ < _; omega) | (constructor <;> omega) | (refine Or.inr ⟨?_, ?_⟩ <;> (show _ < _; omega)) | (refine Or.inl ⟨?_, ?_⟩ <;> (show _ < _; omega)) | (refine ⟨?_, ?_, ?_⟩ <;> decide))
local macro_rules | `(tactic| walk_at "ls") => `(tactic| first | (show _ ≤ _; exact Nat.le_trans (by assumption) (by decide)) | (show _ ≤ _; exact Nat.le_trans (by simp; omega) (by decide : 1000 ≤ sizeLine)))
local macro_rules | `(tactic| walk_at "dv") => `(tactic| rfl)
local macro_rules | `(tactic| walk_at "fv") => `(tactic| rfl)
local macro_rules | `(tactic| walk_at "fn") => `(tactic| rfl)
local macro_rules | `(tactic| walk_at "cl") => `(tactic| assumption)
local macro_rules | `(tactic| walk_at "na") => `(tactic| assumption)
local macro_rules | `(tactic| walk_at "go") => `(tactic| repeat walk_at "g2")
/-- a way is split -/
local macro_rules | `(tactic| walk_at "br") => `(tactic| with_reducible first
  | refine SH.br_d (fun _ => ?_) (fun _ => ?_) | refine SH.br_nd (fun _ => ?_) (fun _ => ?_) | refine SH.br_b (fun _ => ?_) (fun _ => ?_))
/-- all ways -/
local macro_rules | `(tactic| walk_at "all") => `(tactic| repeat' first | walk_at "g2" | (walk_at "br" <;> try (walk_at "no")))
/-- a truth value is the other -/
local macro_rules | `(tactic| walk_at "bq") => `(tactic| first | rfl | (simp_all; done) | (simp_all; omega) | (simp only [decide_eq_true_eq, decide_eq_false_iff_not, Bool.and_eq_true, Bool.or_eq_true] at *; omega))
/-- what was tracked is as it was -/
local macro_rules | `(tactic| walk_at "of") => `(tactic| first
  | assumption
  | exact SH.Off.refl _ _
  | (refine' SH.Off.new2 ?gx (by assumption); (case gx => walk_at "of"))
  | (refine' SH.Off.mut ?gx (by assumption); (case gx => walk_at "of"))
  | (refine' SH.Off.trans' ?gx (by assumption) ?gy; (case gy => (intro _ h; (first | exact h | (simp at h; done) | (simp at h ⊢; simp [h]; done)))); (case gx => walk_at "of")))
/-- kinds; parts of tuples; stars -/
local macro_rules | `(tactic| walk_at "g2") => `(tactic| first
  | (with_reducible first | refine SH.br_ntt ?_ | refine SH.br_ntf ?_ | refine SH.br_k ?_ | refine SH.br_nk ?_ | refine SH.g_star ?_ | refine SH.g_forR2 ?_ | refine SH.g_lcZ ?_ | refine SH.g_enL ?_)
  | ((with_reducible refine' SH.g_slA ?ga ?gz); (case ga => walk_at "sq"); intro _ _ _ _)
  | ((with_reducible refine' SH.g_app' ?ga ?gb ?gz); (case ga => walk_at "hp"); (case gb => walk_at "lt"); intro _ _ _)
  | ((with_reducible refine' SH.g_bml ?ga ?gz); (case ga => walk_at "sq"))
  | ((with_reducible refine' SH.g_popF ?ga ?gz); (case ga => walk_at "hp"); intro _ _ _)
  | (with_reducible first | refine SH.g_pnil ?_ | refine SH.g_pcons ?_ | (refine SH.g_disp ?_; intro _ _))
  | ((with_reducible refine' SH.g_kw ?gz))
  | ((with_reducible refine SH.g_kwR rfl ?_)))
local macro_rules | `(tactic| walk_at "lt") => `(tactic| (rw [PySem.sizeLine_eq]; omega))
namespace SH
open PySem PySem.Spec PyProof.Rows L2
theorem Off.made {S : List Addr} {H H' : Hp} {y : Addr} {o : HO} (x : Off (y :: S) (upd H y o) H') (h : H y = none) : Off S H H' :=
  ⟨fun a u n e => x.keep a u (by simp [ne_of_none e h, n]) (upd_new e h), fun a xs e => x.tups a xs (upd_new e h), fun a u v e => x.frzs a u v (upd_new e h), fun a u e => x.live a u (upd_new e h)⟩
def KnA (H : Hp) (kd : Addr) (kn : List (Nat × List Nat)) : Prop := ∃ kvs, H kd = some (.dK kvs) ∧ kvs.length = kn.length ∧ (∀ v : Nat, (valV kvs (Sum.inl (v : Int))).isSome = decide (v ∈ kn.map (·.1))) ∧
  ∀ (v : Nat) (x : V), valV kvs (Sum.inl (v : Int)) = some x → ∃ t cs, x = .ref t ∧ H t = some (.tup (gV cs)) ∧ (v, cs) ∈ kn
theorem KnA.off {H H' : Hp} {S : List Addr} {d : Addr} {kn : List (Nat × List Nat)} (h : KnA H d kn) (o : Off S H H') (hS : d ∉ S) : KnA H' d kn := by
  obtain ⟨kvs, h1, h2, h3, h4⟩ := h
  refine ⟨kvs, o.at hS h1, h2, h3, fun v x hx => ?_⟩
  obtain ⟨t, cs, e1, e2, e3⟩ := h4 v x hx
  exact ⟨t, cs, e1, o.tups _ _ e2, e3⟩
theorem KnA.put {H H' : Hp} {d t : Addr} {kn : List (Nat × List Nat)} {u : Nat} {cs : List Nat} {kvs : List (Key × V)} (h : KnA H d kn) (e : H d = some (.dK kvs)) (hu : u ∉ kn.map (·.1)) (ht : H t = some (.tup (gV cs))) (o : Off [d] H H') (e' : H' d = some (.dK (putK kvs (Sum.inl (u : Int)) (.ref t)))) : KnA H' d (kn ++ [(u, cs)]) := by
  obtain ⟨kvs0, h1, h2, h3, h4⟩ := h
  rw [e] at h1
  cases h1
  have hno : valV kvs (Sum.inl (u : Int)) = none := by
    have := h3 u
    rw [decide_eq_false hu] at this
    cases hv : valV kvs (Sum.inl (u : Int)) with
    | none => rfl
    | some x => rw [hv] at this; cases this
  refine ⟨_, e', ?_, fun v => ?_, fun v x hx => ?_⟩
  · unfold putK
    rw [valV_any, hno]
    show (kvs ++ _).length = _
    rw [List.length_append, List.length_append, h2]
    rfl
  · rw [valV_putI]
    by_cases c : u = v
    · subst c
      rw [if_pos rfl]
      simp
    · rw [if_neg (by omega), h3 v]
      simp [c, Ne.symm c]
  · rw [valV_putI] at hx
    by_cases c : u = v
    · subst c
      rw [if_pos rfl] at hx
      cases hx
      exact ⟨t, cs, rfl, o.tups _ _ ht, by simp⟩
    · rw [if_neg (by omega)] at hx
      obtain ⟨t', cs', q1, q2, q3⟩ := h4 v x hx
      exact ⟨t', cs', q1, o.tups _ _ q2, List.mem_append_left _ q3⟩
def spWayB (K : PySem.W.Frag) : Sp := fun vs H Q _ => ∃ p d g T tls s0, vs = [.ref p, .ref d, .int ((s0 : Nat) : Int)] ∧ SqT K H p (gV g) ∧ GrOk g ∧ T < g.length ∧ (∀ l, l ≤ T → gAt g l ≤ T) ∧ StpA H d (T + 1) tls ∧ (∀ s c, c ∈ tls s → c ≤ s) ∧ s0 ≤ T ∧
  (∀ t H' cs, H' t = some (.tup (gV cs)) → WayOk g tls s0 cs → Off [] H H' → Q (.ref t) H') ∧ (NoWay g tls s0 → ∀ H', Off [] H H' → Q .non H')
section
variable {P : Program} {w : World} {K : PySem.W.Frag} {mg : Str → Option Value} {base : Heap}
theorem ok_way_back (T : Txt P w K mg) : DefOk P w K mg base "way_back" 1 ["growth", "steps", "start"] (spWayB K) := by
  refine T.d_way_back.ok sc_way_back (fun _ _ _ _ _ _ us hl => match us, hl with | [_, _, _], _ => rfl) (fun vs H Q E h => ?_) (fun f cdv A outer s H vs Q E hr h => ?_)
  · obtain ⟨p, d, g, T0, tls, s0, rfl, _⟩ := h
    rfl
  · obtain ⟨p, d, g, T0, tls, s0, rfl, hp, G, hT, cl, hst, htl, hs0, q1, q2⟩ := h
    have B := T.blt
    have hu := hu_of hr
    refine ⟨_, (pss_cons (ps_par (i := 3) (j := 4) (by rfl) sc_way_back.nd rfl rfl (by decide) rfl rfl (pa_cons (pe_disp (pps_cons (pv 2) (pe_tup pa_nil) pps_nil) (by rfl) (by rfl) (fun z => by cases z) (by decide)) (pa_cons (pe_lst (pa_cons (pv 2) pa_nil)) pa_nil)) (by rfl))
  (pss_cons (ps_while (passes_of rfl) (pt_cmpR op_gt (pe_callB (c_lenK (K := K) rfl) (by rfl) B.b_len PySem.boot_len (pa_cons (pv 4) pa_nil)) pe_int (nomark _))
    (pss_cons (ps_set (i := 5) sc_way_back.nd rfl (by first | exact Or.inl rfl | exact Or.inr rfl) (pe_bmK (K := K) rfl PySem.F.plainAttrs_list PySem.F.slot_list_pop PySem.F.type_list_pop mt_popAt (pv 4) (pa_cons pe_int pa_nil)))
  (pss_one (ps_for (passes_of rfl) rfl (pi_listK (K := K) rfl (pe_dget hu (pv 1) (pv 5) (fun _ _ => rfl))) (pg_name (i := 6) sc_way_back.nd rfl (by first | exact Or.inl rfl | exact Or.inr rfl))
    (pss_cons (ps_set (i := 7) sc_way_back.nd rfl (by first | exact Or.inl rfl | exact Or.inr rfl) (pe_ix (ix_tupK (K := K) rfl) (pv 0) (pe_op op_sub (pv 5) (pv 6)) (fun _ _ => rfl)))
  (pss_cons (ps_if (pt_cmpR op_eq (pv 7) (pv 2) (nomark _))
    (pss_one (ps_ret (pe_tup (pa_starK (K := K) rfl (pe_dget hu (pv 3) (pv 5) (fun _ _ => rfl)) (pa_cons (pv 6) pa_nil)))))
    pss_nil)
  (pss_one (ps_if (pt_cmpR (op_notInI hr.units) (pv 7) (pv 3) (by rfl))
    (pss_cons (ps_dput hu (pv 3) (pv 7) (pe_tup (pa_starK (K := K) rfl (pe_dget hu (pv 3) (pv 5) (fun _ _ => rfl)) (pa_cons (pv 6) pa_nil))) rfl)
  (pss_one (ps_expr (pe_bmK (K := K) rfl PySem.F.plainAttrs_list PySem.F.slot_list_append PySem.F.type_list_append mt_append (pv 4) (pa_cons (pv 7) pa_nil)))))
    pss_nil))))))))
  (pss_one (ps_ret pe_non)))), ?_⟩
    have n1 := G.n1
    walk_at "go"
    rename_i kd hkd t0 ht0
    have hkd2 : upd (upd H kd (.dK [])) t0 (.tup []) kd = some (.dK []) := upd_new upd_same ht0
    refine g_disp2 [(Sum.inl (s0 : Int), .ref t0)] hkd2 rfl (Nat.le_of_ble_eq_true rfl) (by rfl) fun H1 e1 o1 => ?_
    have oA : Off [] H H1 := Off.made ((Off.new (S := [kd]) (H := upd H kd (.dK [])) ht0).trans o1) hkd
    have et0 : H1 t0 = some (.tup []) := o1.tups _ _ upd_same
    have hst1 : StpA H1 d (T0 + 1) tls := hst.off oA (by simp)
    walk_at "go"
    rename_i wl hwl
    have o2 : Off [] H1 (upd H1 wl (.lst [.int (s0 : Int)])) := .new hwl
    have nkw : kd ≠ wl := ne_of_none e1 hwl
    have hwl0 : H wl = none := oA.back hwl
    have kn0 : KnA H1 kd [(s0, [])] := by
      refine ⟨_, e1, rfl, fun v => ?_, fun v x hx => ?_⟩
      · by_cases c : v = s0
        · subst c
          rw [valV_pos rfl]
          simp
        · rw [valV_neg (by simp; omega), valV_nil]
          simp [c]
      · by_cases c : v = s0
        · subst c
          rw [valV_pos rfl] at hx
          cases hx
          exact ⟨t0, [], rfl, et0, by simp⟩
        · rw [valV_neg (by simp; omega), valV_nil] at hx
          cases hx
    refine g_while (fun m σ H2 => ∃ x5 x6 x7 kn nd, σ = [some (.ref p), some (.ref d), some (.int (s0 : Int)), some (.ref kd), some (.ref wl), x5, x6, x7] ∧ WbI g tls T0 s0 kn nd ∧ KnA H2 kd kn ∧ H2 wl = some (.lst (gV ((kn.drop nd).map (·.1)))) ∧ m = 2 * (T0 + 1 - kn.length) + (kn.length - nd) ∧ Off [kd, wl] H1 H2) _
      ⟨_, _, _, [(s0, [])], 0, rfl, WbI.start hs0, kn0.off o2 (by simp), upd_same, rfl, o2.mono (by simp)⟩ (fun m σ H2 hW => ?_)
    obtain ⟨x5, x6, x7, kn, nd, rfl, wb, ka, wq, rfl, o3⟩ := hW
    have hoff : Off [] H H2 := oA.muts o3 (by simp [hkd, hwl0])
    have wlen := wb.len
    have wle := wb.le
    have hlw : (gV ((kn.drop nd).map (·.1))).length = kn.length - nd := by rw [gV_len, List.length_map, List.length_drop]
    walk_at "go"
    rw [hlw]
    refine br_d (fun c1 => ?_) (fun c1 => ?_)
    rotate_left 1
    · walk_at "go"
      have : nd = kn.length := by omega
      subst this
      exact q2 wb.fin H2 hoff
    refine g_whN ?_
    have hnd : nd < kn.length := by omega
    obtain ⟨⟨v, cs⟩, hv⟩ : ∃ x, kn[nd]? = some x := ⟨_, List.getElem?_eq_getElem hnd⟩
    have edrop : gV ((kn.drop nd).map (·.1)) = .int (v : Int) :: gV ((kn.drop (nd + 1)).map (·.1)) := by
      rw [List.drop_eq_getElem_cons hnd]
      rw [List.getElem?_eq_getElem hnd] at hv
      rw [Option.some.inj hv]
      rfl
    rw [edrop] at wq
    have hvT : v ≤ T0 := wb.top (v, cs) (List.mem_of_getElem? hv)
    walk_at "go"
    rename_i H3 wq3 o23
    have o13 : Off [kd, wl] H1 H3 := o3.trans (o23.mono (by simp))
    have hoff3 : Off [] H H3 := oA.muts o13 (by simp [hkd, hwl0])
    have ka3 : KnA H3 kd kn := ka.off o23 (by simpa using nkw)
    obtain ⟨sk, k1, k2, k3⟩ := hst
    obtain ⟨al, v1, v2, v3⟩ := k3 v (by omega)
    have nak : al ≠ kd := ne_of_none v2 hkd
    have naw : al ≠ wl := ne_of_none v2 hwl0
    refine g_dgI (hoff3.at nin_nil k1) v1 ?_
    have val3 := hoff3.at nin_nil v2
    refine forL_mk (fun i σ H4 => ∃ x6 x7 kn', σ = [some (.ref p), some (.ref d), some (.int (s0 : Int)), some (.ref kd), some (.ref wl), some (.int (v : Int)), x6, x7] ∧ WbI g tls T0 s0 kn' nd ∧ kn'[nd]? = some (v, cs) ∧ kn.length ≤ kn'.length ∧ KnA H4 kd kn' ∧ H4 wl = some (.lst (gV ((kn'.drop (nd + 1)).map (·.1)))) ∧
      (∀ c, c ∈ (tls v).take i → gAt g (v - c) ≠ s0 ∧ gAt g (v - c) ∈ kn'.map (·.1)) ∧ Off [kd, wl] H3 H4) (.of val3)
      ⟨_, _, kn, rfl, wb, hv, Nat.le_refl _, ka3, wq3, fun c hc => by simp at hc, .refl _ _⟩ (fun i σ H4 hi hP => ?_) (fun i x σ H4 hi hP => ?_) (fun σ H4 hP => ?_)
    · obtain ⟨y6, y7, kn', rfl, j1, j2, j3, j4, j5, j6, j7⟩ := hP
      exact .of (j7.at (by simp [nak, naw]) val3)
    rotate_left 1
    · obtain ⟨y6, y7, kn', rfl, j1, j2, j3, j4, j5, j6, j7⟩ := hP
      rw [gV_len, List.take_length] at j6
      have jl := j1.len
      have jn := (List.getElem?_eq_some_iff.mp j2).1
      refine ⟨_, ?_, _, _, _, kn', nd + 1, rfl, ⟨by omega, j1.top, j1.nodup, j1.path, j1.has, fun i' v' cs' hi' hv' => ?_⟩, j4, j5, rfl, o13.trans j7⟩
      · omega
      · by_cases e : i' = nd
        · subst e
          rw [j2] at hv'
          cases hv'
          exact j6
        · exact j1.done i' v' cs' (by omega) hv'
    obtain ⟨y6, y7, kn', rfl, j1, j2, j3, j4, j5, j6, j7⟩ := hP
    obtain ⟨c, hc, rfl⟩ : ∃ c : Nat, (tls v)[i]? = some c ∧ x = .int (c : Int) := by
      unfold gV gI at hi
      rw [List.getElem?_map, List.getElem?_map] at hi
      cases hc : (tls v)[i]? with
      | none => rw [hc] at hi; cases hi
      | some c =>
        rw [hc] at hi
        cases hi
        exact ⟨c, rfl, rfl⟩
    have hcm : c ∈ tls v := List.mem_of_getElem? hc
    have hcv := htl v c hcm
    have et : (tls v).take (i + 1) = (tls v).take i ++ [c] := by rw [List.take_add_one, hc]; rfl
    have esub : ((v : Nat) : Int) - ((c : Nat) : Int) = ((v - c : Nat) : Int) := by omega
    have hcl := cl (v - c) (by omega)
    have o4 : Off [] H H4 := hoff3.muts j7 (by simp [hkd, hwl0])
    have hp4 := o4.seqT hp
    have jl := j1.len
    have jn := (List.getElem?_eq_some_iff.mp j2).1
    obtain ⟨kvs, a1, a2, a3, a4⟩ := id j4
    obtain ⟨xk, hxk⟩ : ∃ xk, valV kvs (Sum.inl (v : Int)) = some xk := by
      have := a3 v
      rw [decide_eq_true (List.mem_map.mpr ⟨_, List.mem_of_getElem? j2, rfl⟩)] at this
      exact Option.isSome_iff_exists.mp this
    obtain ⟨tk, ck, rfl, tk2, tk3⟩ := a4 v xk hxk
    obtain ⟨i0, hi0, ei0⟩ := List.mem_iff_getElem.mp tk3
    have hk0 : kn'[i0]? = some (v, ck) := by rw [List.getElem?_eq_getElem hi0, ei0]
    obtain ⟨p1, p2, p3⟩ := j1.path i0 v ck hk0
    walk_at "go"
    rw [esub]
    refine g_ixT hp4 (gV_at (by omega)) ?_
    walk_at "go"
    refine br_d (fun c2 => ?_) (fun c2 => ?_)
    · have e2 : gAt g (v - c) = s0 := by omega
      walk_at "go"
      refine g_dgI a1 hxk ?_
      refine ⟨tk, _, rfl, .inl (.of tk2), ?_⟩
      walk_at "go"
      refine ⟨by rw [List.length_append, gV_len, sizeLine_eq]; simp; omega, fun pr hpr => ?_⟩
      refine q1 pr _ (ck ++ [c]) (by rw [upd_same, gV_snoc]) ⟨by simp, by rw [List.length_append, List.length_singleton]; omega, (tp_app _).mpr ⟨p1, by rw [p2]; exact ⟨hcm, trivial⟩⟩, ?_⟩ (o4.new2 hpr)
      rw [run_app, p2]
      exact e2
    walk_at "go"
    have ne2 : gAt g (v - c) ≠ s0 := by omega
    refine g_notInI a1 ?_
    rw [a3]
    walk_at "go"
    refine br_nd (fun c3 => ?_) (fun c3 => ?_)
    rotate_left 1
    · walk_at "go"
      refine ⟨_, _, kn', rfl, j1, j2, j3, j4, j5, fun c' hc' => ?_, j7⟩
      rw [et] at hc'
      rcases List.mem_append.mp hc' with h | h
      · exact j6 c' h
      · rw [List.mem_singleton.mp h]; exact ⟨ne2, c3⟩
    walk_at "go"
    refine g_dgI a1 hxk ?_
    refine ⟨tk, _, rfl, .inl (.of tk2), ?_⟩
    walk_at "go"
    refine ⟨by rw [List.length_append, gV_len, sizeLine_eq]; simp; omega, fun pr hpr => ?_⟩
    have oR : Off [] H4 (upd H4 pr (.tup (gV ck ++ [.int (c : Int)]))) := .new hpr
    have j4' := j4.off oR (by simp)
    have j5' := oR.at nin_nil j5
    have er : upd H4 pr (.tup (gV ck ++ [.int (c : Int)])) pr = some (.tup (gV (ck ++ [c]))) := by rw [upd_same, gV_snoc]
    have a1' := oR.at nin_nil a1
    have o34 := j7.trans (oR.mono (S' := [kd, wl]) (by simp))
    generalize upd H4 pr (.tup (gV ck ++ [.int (c : Int)])) = H5 at *
    walk_at "go"
    refine g_dpI a1' (by rw [a2, sizeLine_eq]; omega) fun H6 e6 o6 => ?_
    have ka6 := j4'.put a1' c3 er o6 e6
    have wq6 := o6.at (by simpa using nkw.symm) j5'
    have hlw6 : (gV ((kn'.drop (nd + 1)).map (·.1))).length ≤ 40 := by rw [gV_len, List.length_map, List.length_drop]; omega
    walk_at "go"
    rename_i H7 e7 o7
    refine ⟨_, _, kn' ++ [(gAt g (v - c), ck ++ [c])], rfl, j1.add hk0 hcm hcl c3, ?_, by rw [List.length_append]; omega, ka6.off o7 (by simpa using nkw), ?_, fun c' hc' => ?_, (o34.trans (o6.mono (by simp))).trans (o7.mono (by simp))⟩
    · rw [List.getElem?_append_left jn]
      exact j2
    · rw [e7, List.drop_append_of_le_length (by omega), List.map_append]
      show some (HO.lst (_ ++ [V.int ((gAt g (v - c) : Nat) : Int)])) = some (.lst (gV (_ ++ [gAt g (v - c)])))
      rw [gV_snoc]
    · rw [List.map_append]
      rw [et] at hc'
      rcases List.mem_append.mp hc' with h | h
      · exact ⟨(j6 c' h).1, List.mem_append_left _ (j6 c' h).2⟩
      · rw [List.mem_singleton.mp h]
        exact ⟨ne2, List.mem_append_right _ (by simp)⟩
end
end SH
end

section
/-! #### the walk's words -/
local macro_rules | `(tactic| walk_at "ne0") => `(tactic| first
  | assumption
  | (refine Ne.symm ?_; assumption))
local macro_rules | `(tactic| walk_at "ne") => `(tactic| first
  | assumption
  | (refine Ne.symm ?_; assumption)
  | (refine' L2.ne_of_none ?gx (by assumption); (case gx => walk_at "hp"))
  | (refine' Ne.symm (L2.ne_of_none ?gx (by assumption)); (case gx => walk_at "hp")))
local macro_rules | `(tactic| walk_at "hp") => `(tactic| first
  | assumption
  | exact L2.upd_same
  | (refine' SH.upd_new ?gh (by assumption); (case gh => walk_at "hp"))
  | (refine' (L2.upd_ne ?gn).trans ?gh; (case gn => walk_at "ne0"); (case gh => walk_at "hp"))
  | (refine' SH.Off.at (by assumption) ?gn ?gh; (case gn => walk_at "nin"); (case gh => walk_at "hp")))
local macro_rules | `(tactic| walk_at "nin") => `(tactic| first
  | exact SH.nin_nil
  | (refine SH.nin_cons ?_ ?_; (· walk_at "ne0"); (· walk_at "nin")))
local macro_rules | `(tactic| walk_at "sq") => `(tactic| first
  | assumption
  | (apply L2.SqL.of; (· walk_at "hp"))
  | (apply L2.SqT.of; (· walk_at "hp"))
  | (refine' SH.seqT_new ?gx (by assumption); (case gx => walk_at "sq"))
  | (refine' SH.seqL_new ?gx (by assumption); (case gx => walk_at "sq"))
  | (refine' SH.Off.seqT (by assumption) ?gx; (case gx => walk_at "sq"))
  | (refine' SH.Off.seqL (by assumption) ?gy ?gx; (case gx => walk_at "sq"); (case gy => walk_at "nin")))
local macro_rules | `(tactic| walk_at "kd") => `(tactic| first
  | assumption | exact SH.KdV.int _ | exact SH.KdV.bl _ | exact SH.KdV.str _ | exact SH.KdV.non
  | (apply SH.KdV.tup; (· walk_at "sq")) | (apply SH.KdV.lst; (· walk_at "sq")))
/-- a way that cannot be -/
local macro_rules | `(tactic| walk_at "no") => `(tactic| (exfalso; first | assumption | omega | contradiction | (simp_all; done)))
/-- one step -/
local macro_rules | `(tactic| walk_at "g1") => `(tactic| with_reducible first
  | refine SH.g_var (by with_unfolding_all rfl) ?_ | refine SH.g_c ?_ | refine SH.g_op ?_ | refine SH.g_un ?_ | refine SH.g_I0 ?_ | refine SH.g_U ?_
  | refine SH.g_eqI ?_ | refine SH.g_neI ?_ | refine SH.g_eqS ?_ | refine SH.g_neS ?_
  | refine SH.g_test ?_ | refine SH.g_B ?_ | refine SH.g_isB ?_ | refine SH.g_and ?_ | refine SH.g_or ?_ | refine SH.g_not ?_ | refine SH.g_andV ?_ | refine SH.g_orV ?_ | refine SH.g_notV ?_ | refine SH.g_ifE ?_ | refine SH.g_chain ?_
  | refine SH.g_nil ?_ | refine SH.g_cons ?_ | refine SH.g_tup ?_ | refine SH.g_lst ?_ | refine SH.g_call ?_ | refine SH.g_fld ?_ | refine SH.g_meth ?_ | refine SH.g_make ?_ | refine SH.g_cb ?_ | refine SH.g_bm ?_
  | refine SH.g_seq ?_ | refine SH.g_asg ?_ | refine SH.g_name ?_ | refine SH.g_drop ?_ | refine SH.g_ret ?_ | refine SH.g_retN ?_ | refine SH.g_next ?_ | refine SH.g_brk ?_ | refine SH.g_cnt ?_ | refine SH.g_ifs ?_ | refine SH.g_par ?_ | refine SH.g_par2 ?_ | refine SH.g_fldS ?_ | refine SH.g_raise ?_ | refine SH.g_rs ?_
  | refine SH.g_sub ?_ | refine SH.g_yes ?_ | refine SH.g_sl ?_ | refine SH.g_noPart ?_ | refine SH.g_part ?_ | refine SH.g_intO ?_ | refine SH.g_dget ?_ | refine SH.g_dput ?_ | refine SH.g_forR ?_ | refine SH.g_forL ?_ | refine SH.g_forT ?_ | refine SH.g_lcR ?_ | refine SH.g_lcL ?_ | refine SH.g_lcT ?_ | refine SH.g_gcons ?_ | refine SH.g_gnil ?_
  | refine SH.br_t ?_ | refine SH.br_f ?_
  | refine SH.g_int ?_ | refine SH.g_abs ?_ | refine SH.g_max2 ?_ | refine SH.g_min2 ?_)
local macro_rules | `(tactic| walk_at "g2") => `(tactic| first
  | walk_at "g1"
  | ((with_reducible refine' SH.g_isiInt ?ga ?gz); (case ga => walk_at "kd"))
  | ((with_reducible refine' SH.g_isiBool ?ga ?gz); (case ga => walk_at "kd"))
  | ((with_reducible refine' SH.g_isiStr ?ga ?gz); (case ga => walk_at "kd"))
  | ((with_reducible refine' SH.g_isiTup ?ga ?gz); (case ga => walk_at "kd"))
  | ((with_reducible refine' SH.g_ixT ?ga ?gb ?gz); (case ga => walk_at "sq"); (case gb => rfl))
  | ((with_reducible refine' SH.g_ixL ?ga ?gb ?gz); (case ga => walk_at "sq"); (case gb => first | rfl | (apply SH.atI_refs; assumption)))
  | ((with_reducible refine SH.br_F ?_ ?_); (· decide +kernel)) | ((with_reducible refine SH.br_T ?_ ?_); (· decide +kernel)) | ((with_reducible refine SH.br_NF ?_ ?_); (· decide +kernel)) | ((with_reducible refine SH.br_NT ?_ ?_); (· decide +kernel))
  | ((with_reducible refine' SH.g_gtup ?ga ?gb ?gz); (case ga => walk_at "sq"); (case gb => rfl))
  | ((with_reducible refine' SH.g_lenT ?ga ?gz); (case ga => walk_at "sq"))
  | ((with_reducible refine' SH.g_lenL ?ga ?gz); (case ga => walk_at "sq"))
  | ((with_reducible refine SH.g_mkT (SH.sz rfl) ?_); intro _ _)
  | ((with_reducible refine SH.g_mkL (SH.sz rfl) ?_); intro _ _)
  | ((with_reducible refine SH.g_dnew ?_); intro _ _)
  | ((with_reducible refine' SH.g_tupL ?ga ?gz); (case ga => walk_at "sq"); intro _ _)
  | ((with_reducible refine' SH.g_lstL ?ga ?gz); (case ga => walk_at "sq"); intro _ _)
  | ((with_reducible refine' SH.g_lstT ?ga ?gz); (case ga => walk_at "sq"); intro _ _)
  | ((with_reducible refine' SH.g_dgR ?ga ?gb ?gz); (case ga => walk_at "hp"); (case gb => walk_at "dv"))
  | ((with_reducible refine' SH.g_fldR ?ga ?gb ?gc ?gd ?gz); (case ga => walk_at "hp"); (case gb => walk_at "cl"); (case gc => walk_at "na"); (case gd => walk_at "fv"))
  | ((with_reducible refine' SH.g_insR ?ga ?gb ?gz); (case ga => walk_at "hp"); (case gb => walk_at "fn"))
  | ((with_reducible refine' SH.g_setL ?ga ?gb ?gz); (case ga => walk_at "hp"); (case gb => rfl))
  | ((with_reducible refine SH.g_I ?_ ?_); (· walk_at "ci"))
  | ((with_reducible refine' SH.g_slL ?ga ?gz); (case ga => walk_at "sq"); intro _ _)
  | ((with_reducible refine' SH.g_cat ?ga ?gb ?gc ?gz); (case ga => walk_at "hp"); (case gb => walk_at "hp"); (case gc => walk_at "ls"); intro _ _))
/-- the side conditions of numbers: a divisor, a factor -/
local macro_rules | `(tactic| walk_at "ci") => `(tactic| first
  | (show _ ≠ _; omega) | (show _ < _; omega) | (constructor <;> omega) | (refine Or.inr ⟨?_, ?_⟩ <;> (show _ < _; omega)) | (refine Or.inl ⟨?_, ?_⟩ <;> (show _ < _; omega)) | (refine ⟨?_, ?_, ?_⟩ <;> decide))
local macro_rules | `(tactic| walk_at "ls") => `(tactic| first | (show _ ≤ _; exact Nat.le_trans (by assumption) (by decide)) | (show _ ≤ _; exact Nat.le_trans (by simp; omega) (by decide : 1000 ≤ sizeLine)))
local macro_rules | `(tactic| walk_at "dv") => `(tactic| rfl)
local macro_rules | `(tactic| walk_at "fv") => `(tactic| rfl)
local macro_rules | `(tactic| walk_at "fn") => `(tactic| rfl)
local macro_rules | `(tactic| walk_at "cl") => `(tactic| assumption)
local macro_rules | `(tactic| walk_at "na") => `(tactic| assumption)
local macro_rules | `(tactic| walk_at "go") => `(tactic| repeat walk_at "g2")
/-- a way is split -/
local macro_rules | `(tactic| walk_at "br") => `(tactic| with_reducible first
  | refine SH.br_d (fun _ => ?_) (fun _ => ?_) | refine SH.br_nd (fun _ => ?_) (fun _ => ?_) | refine SH.br_b (fun _ => ?_) (fun _ => ?_))
/-- all ways -/
local macro_rules | `(tactic| walk_at "all") => `(tactic| repeat' first | walk_at "g2" | (walk_at "br" <;> try (walk_at "no")))
/-- a truth value is the other -/
local macro_rules | `(tactic| walk_at "bq") => `(tactic| first | rfl | (simp_all; done) | (simp_all; omega) | (simp only [decide_eq_true_eq, decide_eq_false_iff_not, Bool.and_eq_true, Bool.or_eq_true] at *; omega))
/-- what was tracked is as it was -/
local macro_rules | `(tactic| walk_at "of") => `(tactic| first
  | assumption
  | exact SH.Off.refl _ _
  | (refine' SH.Off.new2 ?gx (by assumption); (case gx => walk_at "of"))
  | (refine' SH.Off.mut ?gx (by assumption); (case gx => walk_at "of"))
  | (refine' SH.Off.trans' ?gx (by assumption) ?gy; (case gy => (intro _ h; (first | exact h | (simp at h; done) | (simp at h ⊢; simp [h]; done)))); (case gx => walk_at "of")))
/-- kinds; parts of tuples; stars -/
local macro_rules | `(tactic| walk_at "g2") => `(tactic| first
  | (with_reducible first | refine SH.br_ntt ?_ | refine SH.br_ntf ?_ | refine SH.br_k ?_ | refine SH.br_nk ?_ | refine SH.g_star ?_ | refine SH.g_forR2 ?_ | refine SH.g_lcZ ?_ | refine SH.g_enL ?_)
  | ((with_reducible refine' SH.g_slA ?ga ?gz); (case ga => walk_at "sq"); intro _ _ _ _)
  | ((with_reducible refine' SH.g_app' ?ga ?gb ?gz); (case ga => walk_at "hp"); (case gb => walk_at "lt"); intro _ _ _)
  | ((with_reducible refine' SH.g_bml ?ga ?gz); (case ga => walk_at "sq"))
  | ((with_reducible refine' SH.g_popF ?ga ?gz); (case ga => walk_at "hp"); intro _ _ _)
  | (with_reducible first | refine SH.g_pnil ?_ | refine SH.g_pcons ?_ | (refine SH.g_disp ?_; intro _ _))
  | ((with_reducible refine' SH.g_kw ?gz))
  | ((with_reducible refine SH.g_kwR rfl ?_)))
local macro_rules | `(tactic| walk_at "lt") => `(tactic| (rw [PySem.sizeLine_eq]; omega))
namespace SH
open PySem PySem.Spec PyProof.Rows L2
/-- sure fishing with a mean -/
structure FishOk (g : List Nat) (s : Nat) (N D : Int) (zs cs : List Nat) : Prop where
  l1 : zs.length ≤ 100
  l2 : cs.length ≤ 100
  ne : cs ≠ []
  o1 : okR g s zs
  o2 : okR g (run g s zs) cs
  back : run g s zs ≤ run g (run g s zs) cs
  sum : sumN cs * D = cs.length * N
def spFish (K : PySem.W.Frag) : Addr → List Nat → Nat → Hp → VK → Prop := fun _ g s H Q => ∀ r H' t1 t2 zs cs, H' r = some (.tup [.ref t1, .ref t2]) → H' t1 = some (.tup (gV zs)) → H' t2 = some (.tup (gV cs)) → FishOk g s (bestM g (topOf g s)).1 (bestM g (topOf g s)).2 zs cs → Off [] H H' → Q (.ref r) H'
theorem run_zero {g : List Nat} {s : Nat} : ∀ j, run g s (List.replicate j 0) = orb g s j
  | 0 => rfl
  | j + 1 => by
    rw [List.replicate_succ', run_app, run_zero j]
    rfl
theorem ok_zero {g : List Nat} : ∀ (j : Nat) {s : Nat}, okR g s (List.replicate j 0)
  | 0, _ => trivial
  | j + 1, s => by
    rw [List.replicate_succ]
    exact ⟨Nat.zero_le _, ok_zero j⟩
theorem cutV_drop1 (l : List Nat) (c : Nat) : cutV (gV (l ++ [c])) none (some (-1)) = gV l := by
  unfold cutV
  have e1 : HT.sIx (gV (l ++ [c])).length (gV (l ++ [c])).length (some (-1)) = l.length := by
    rw [gV_len, List.length_append, List.length_singleton]
    show (if (-1 : Int) < 0 then ((-1 : Int) + ((l.length + 1 : Nat) : Int)).toNat else min (-1 : Int).toNat (l.length + 1)) = _
    rw [if_pos (by omega)]
    omega
  rw [HT.sIx_none, e1, List.drop_zero, Nat.sub_zero, gV_snoc, List.take_append_of_le_length (by rw [gV_len]; omega), List.take_of_length_le (by rw [gV_len]; omega)]
theorem atI_cons0z {v : V} {vs : List V} : atI (v :: vs) 0 = some v := by
  unfold atI ixN
  rw [if_pos (by omega), if_pos (by rw [List.length_cons]; omega)]
  rfl
theorem gV_last (l : List Nat) (c : Nat) : atI (gV (l ++ [c])) (-1) = some (.int (c : Int)) := by
  unfold atI ixN
  rw [if_neg (by omega), if_pos (by rw [gV_len, List.length_append, List.length_singleton]; omega), gV_len, List.length_append, List.length_singleton]
  show (gV (l ++ [c]))[((-1 : Int) + ((l.length + 1 : Nat) : Int)).toNat]? = _
  rw [show ((-1 : Int) + ((l.length + 1 : Nat) : Int)).toNat = l.length by omega, gV_snoc, List.getElem?_append_right (by rw [gV_len]; omega), gV_len, Nat.sub_self]
  rfl
section
variable {P : Program} {w : World} {K : PySem.W.Frag} {mg : Str → Option Value} {base : Heap}
theorem okL_fishing (T : Txt P w K mg) : DefL P w K mg base "fishing" 5 ["growth", "start"] (spGS K (spFish K)) := by
  refine T.d_fishing.okL sc_fishing (fun _ _ _ _ _ _ us hl => match us, hl with | [_, _], _ => rfl) (fun vs H Q E h => ?_) (fun f cdv A outer s H vs Q E hr h => ?_)
  · obtain ⟨v, u, rfl, _⟩ := h
    rfl
  · obtain ⟨v, u, rfl, h⟩ := h
    have B := T.blt
    have hu := hu_of hr
    have G_demand_stock := ok_demand_stock (base := base) T
    have G_top_of := ok_top_of (base := base) T
    have G_tight_steps := ok_tight_steps (base := base) T
    have G_way_back := ok_way_back (base := base) T
    have G_best_mean := ok_best_mean (base := base) T
    refine ⟨_, (pss_cons (ps_expr (pe_df G_demand_stock (hr.mono (by decide)) (L2N.passes_call (L2N.takes_of rfl rfl rfl rfl) fun _ _ _ _ z => z) (pa_cons (pv 0) (pa_cons (pv 1) pa_nil))))
  (pss_cons (ps_set (i := 2) sc_fishing.nd rfl (by first | exact Or.inl rfl | exact Or.inr rfl) (pe_df G_top_of (hr.mono (by decide)) (L2N.passes_call (L2N.takes_of rfl rfl rfl rfl) fun _ _ _ _ z => z) (pa_cons (pv 0) (pa_cons (pv 1) pa_nil))))
  (pss_cons (ps_set (i := 3) sc_fishing.nd rfl (by first | exact Or.inl rfl | exact Or.inr rfl) (pe_df G_tight_steps (hr.mono (by decide)) (L2N.passes_call (L2N.takes_of rfl rfl rfl rfl) fun _ _ _ _ z => z) (pa_cons (pv 0) (pa_cons (pv 2) (pa_cons (pe_df G_best_mean (hr.mono (by decide)) (L2N.passes_call (L2N.takes_of rfl rfl rfl rfl) fun _ _ _ _ z => z) (pa_cons (pv 0) (pa_cons (pv 2) pa_nil))) pa_nil)))))
  (pss_cons (ps_set (i := 5) sc_fishing.nd rfl (by first | exact Or.inl rfl | exact Or.inr rfl) (pe_ix (ix_listK (K := K) rfl) (pe_lc (own := [("stock", 4)]) rfl sc_fishing.nd (pi_range1 rfl B.b_range (pa_cons (pe_op op_add (pv 2) pe_int) pa_nil)) (blkOk_by (own := [("stock", 4)]) (N := ["growth", "start", "last", "steps", "stock", "begin", "again", "catch", "left", "here", "first"]) (sc := defScope s_fishing) (by decide +kernel)) (fun _ _ _ _ _ => (pg_name (i := 4) sc_fishing.nd rfl (by first | exact Or.inl rfl | exact Or.inr rfl))) (fun _ _ _ _ _ => (pts_one (pt_cmpR op_notN (pe_df G_way_back (hr.mono (by decide)) passN (pa_cons (pv 0) (pa_cons (pv 3) (pa_cons (pv 4) pa_nil)))) pe_non (nomark _)))) (fun _ _ _ _ _ => (pv 4))) pe_int (fun _ _ => rfl)))
  (pss_cons (ps_set (i := 6) sc_fishing.nd rfl (by first | exact Or.inl rfl | exact Or.inr rfl) (pe_df G_way_back (hr.mono (by decide)) (L2N.passes_call (L2N.takes_of rfl rfl rfl rfl) fun _ _ _ _ z => z) (pa_cons (pv 0) (pa_cons (pv 3) (pa_cons (pv 5) pa_nil)))))
  (pss_cons (ps_set (i := 4) sc_fishing.nd rfl (by first | exact Or.inl rfl | exact Or.inr rfl) (pv 5))
  (pss_cons (ps_for (passes_of rfl) rfl (pi_tupK (K := K) rfl (pe_slice (sl_tupAK (K := K) rfl) (pv 6) po_none (po_some (pe_un un_neg pe_int)))) (pg_name (i := 7) sc_fishing.nd rfl (by first | exact Or.inl rfl | exact Or.inr rfl))
    (pss_one (ps_set (i := 4) sc_fishing.nd rfl (by first | exact Or.inl rfl | exact Or.inr rfl) (pe_ix (ix_tupK (K := K) rfl) (pv 0) (pe_op op_sub (pv 4) (pv 7)) (fun _ _ => rfl)))))
  (pss_cons (ps_par3 (i := 8) (j := 9) (l := 10) (by rfl) sc_fishing.nd rfl rfl rfl (by decide) (by decide) (by decide) rfl rfl rfl (pa_cons (pe_op op_sub (pv 4) (pe_ix (ix_tupK (K := K) rfl) (pv 6) (pe_un un_neg pe_int) (fun _ _ => rfl))) (pa_cons (pv 1) (pa_cons (pe_lst pa_nil) pa_nil))) (by rfl))
  (pss_cons (ps_while (passes_of rfl) (pt_cmpR op_lt (pv 9) (pv 8) (nomark _))
    (pss_cons (ps_expr (pe_bmK (K := K) rfl PySem.F.plainAttrs_list PySem.F.slot_list_append PySem.F.type_list_append mt_append (pv 10) (pa_cons pe_int pa_nil)))
  (pss_one (ps_set (i := 9) sc_fishing.nd rfl (by first | exact Or.inl rfl | exact Or.inr rfl) (pe_ix (ix_tupK (K := K) rfl) (pv 0) (pv 9) (fun _ _ => rfl))))))
  (pss_one (ps_ret (pe_tup (pa_cons (pe_tup (pa_starK (K := K) rfl (pv 10) (pa_cons (pe_op op_sub (pv 9) (pv 8)) pa_nil))) (pa_cons (pv 6) pa_nil)))))))))))))), ?_⟩
    rcases h with ⟨p, g, s, ha, q⟩ | ⟨nm, hb, q⟩
    rotate_left 1
    · walk_at "go"
      exact ⟨v, u, rfl, .inr ⟨nm, hb, fun H1 o1 => q H1 o1⟩⟩
    walk_at "go"
    refine ⟨v, u, rfl, .inl ⟨p, g, s, ha, fun H1 o1 => ?_⟩⟩
    obtain ⟨rfl, rfl, hp, G, hs⟩ := ha
    walk_at "go"
    refine ⟨p, g, s, rfl, o1.seqT hp, G, hs, ?_⟩
    have it := G.isTop hs
    have n1 := G.n1
    have mok := bestM_ok G it.lt it.cl
    unfold spFish at q
    walk_at "go"
    refine ⟨p, g, _, rfl, o1.seqT hp, G, it.lt, it.cl, fun m H2 e2 o2 => ?_⟩
    have o12 := o1.trans o2
    walk_at "go"
    refine ⟨p, g, _, m, _, _, rfl, o12.seqT hp, G, it.lt, it.cl, ⟨.of e2, mok⟩, fun d H3 ws st3 pot o3 => ?_⟩
    have o13 := o12.trans o3
    have hp3 := o13.seqT hp
    have tlt := it.lt
    have cl := it.cl
    generalize hN : (bestM g (topOf g s)).1 = N at *
    generalize hD : (bestM g (topOf g s)).2 = D0 at *
    generalize hTT : topOf g s = T0 at *
    have htl : ∀ s c, c ∈ tlF g ws N D0 s → c ≤ s := fun s c h => (tlF_mem.mp h).1
    have eT : ((T0 : Nat) : Int) + 1 = ((T0 + 1 : Nat) : Int) := by omega
    walk_at "go"
    rw [eT]
    refine lcR_mk ⟨by omega, by omega⟩ (fun L i H4 => Off [] H3 H4 ∧ ∃ ns : List Nat, H4 L = some (.lst (gV ns)) ∧ ns.length ≤ i ∧ (∀ n ∈ ns, n ≤ T0 ∧ ¬ NoWay g (tlF g ws N D0) n) ∧ ((∃ w, w < i ∧ ¬ NoWay g (tlF g ws N D0) w) → ns ≠ []))
      (fun L hL => ⟨.new hL, [], upd_same, Nat.le_refl _, fun n h => (by cases h), fun ⟨w, h, _⟩ => absurd h (Nat.not_lt_zero w)⟩) (fun L i H4 hL hi hP => ?_) (fun L H4 hL hP => ?_)
    · obtain ⟨f1, ns, f2, f3, f4, f5⟩ := hP
      rw [Int.toNat_natCast] at hi
      refine ⟨rfl, ?_⟩
      walk_at "go"
      refine ⟨p, d, g, T0, _, i, rfl, f1.seqT hp3, G, tlt, cl, st3.off f1 (by simp), htl, by omega, fun t H5 cs e5 way o5 => ?_, fun no H5 o5 => ?_⟩
      · walk_at "go"
        refine ⟨rfl, ?_⟩
        walk_at "go"
        refine br_NF (fun z : V.ref t = V.non => by cases z) ?_
        walk_at "go"
        refine g_app (o5.at nin_nil f2) (by rw [gV_len, sizeLine_eq]; omega) ⟨(f1.trans o5).mut hL, ns ++ [i], by rw [upd_same, gV_snoc], by rw [List.length_append, List.length_singleton]; omega, fun n hn => ?_, fun _ => by simp⟩
        rcases List.mem_append.mp hn with h | h
        · exact f4 n h
        · rw [List.mem_singleton.mp h]
          exact ⟨by omega, fun no => no cs way.ne way.tp way.back⟩
      · walk_at "go"
        refine ⟨rfl, ?_⟩
        walk_at "go"
        refine ⟨f1.trans o5, ns, o5.at nin_nil f2, by omega, f4, fun ⟨w, hw, hno⟩ => f5 ⟨w, ?_, hno⟩⟩
        have : w ≠ i := fun e => by subst e; exact hno no
        omega
    obtain ⟨o4, ns, f2, f3, f4, f5⟩ := hP
    rw [Int.toNat_natCast] at f3 f5
    obtain ⟨w0, hw0, hno0⟩ := mok.way cl pot
    have nne := f5 ⟨w0, by omega, hno0⟩
    obtain ⟨b, ns, rfl⟩ : ∃ b ns', ns = b :: ns' := by
      cases ns with
      | nil => exact absurd rfl nne
      | cons b ns => exact ⟨b, ns, rfl⟩
    obtain ⟨hbT, hbno⟩ := f4 b List.mem_cons_self
    have o14 := o13.trans o4
    walk_at "go"
    refine g_ixL (.of f2) (show atI (.int (b : Int) :: gV ns) 0 = _ from atI_cons0z) ?_
    walk_at "go"
    refine ⟨p, d, g, T0, _, b, rfl, o14.seqT hp, G, tlt, cl, st3.off o4 (by simp), htl, hbT, fun t H5 cs e5 way o5 => ?_, fun no H5 o5 => absurd no hbno⟩
    have o15 := o14.trans o5
    walk_at "go"
    rename_i pl H6 hpl o6
    obtain ⟨ls, c, rfl⟩ : ∃ ls c, cs = ls ++ [c] := ⟨cs.dropLast, cs.getLast way.ne, (List.dropLast_concat_getLast way.ne).symm⟩
    rw [cutV_drop1] at hpl
    have okc := tp_ok htl _ way.tp
    obtain ⟨ok1, ok2⟩ := (okR_app _).mp okc
    have hback := way.back
    rw [run_app] at hback
    have hvT := run_le cl ls hbT
    have o16 := o15.trans o6
    have hp6 := o16.seqT hp
    have e6 := o6.tups _ _ e5
    refine forT_mk (fun i σ H7 => ∃ x7, σ = [some (.ref p), some (.int (s : Int)), some (.int (T0 : Int)), some (.ref d), some (.int ((run g b (ls.take i) : Nat) : Int)), some (.int (b : Int)), some (.ref t), x7, none, none, none] ∧ H7 = H6) hpl
      ⟨_, rfl, rfl⟩ (fun i σ H7 hi hP => by rw [hP.choose_spec.2]; exact hpl) (fun i x σ H7 hi hP => ?_) (fun σ H7 hP => ?_)
    · obtain ⟨x7, rfl, rfl⟩ := hP
      obtain ⟨ci, hci, rfl⟩ : ∃ ci : Nat, ls[i]? = some ci ∧ x = .int (ci : Int) := by
        unfold gV gI at hi
        rw [List.getElem?_map, List.getElem?_map] at hi
        cases hc : ls[i]? with
        | none => rw [hc] at hi; cases hi
        | some c =>
          rw [hc] at hi
          cases hi
          exact ⟨c, rfl, rfl⟩
      have et : ls.take (i + 1) = ls.take i ++ [ci] := by rw [List.take_add_one, hci]; rfl
      have hii := (List.getElem?_eq_some_iff.mp hci).1
      have eall : ls = ls.take i ++ ci :: ls.drop (i + 1) := by
        rw [List.getElem?_eq_getElem hii] at hci
        rw [← Option.some.inj hci, ← List.drop_eq_getElem_cons hii, List.take_append_drop]
      have okt := ok1
      rw [eall] at okt
      have hcile := ((okR_app _).mp okt).2.1
      have hrl := run_le cl (ls.take i) hbT
      rw [et, run_app]
      have esub : ((run g b (ls.take i) : Nat) : Int) - (ci : Int) = ((run g b (ls.take i) - ci : Nat) : Int) := by omega
      walk_at "go"
      rw [esub]
      refine g_ixT hp6 (gV_at (by omega)) ?_
      walk_at "go"
      exact ⟨_, rfl, rfl⟩
    obtain ⟨x7, rfl, rfl⟩ := hP
    rw [gV_len, List.take_length]
    generalize hvv : run g b ls = v at *
    have hcv : c ≤ v := ok2.1
    have hgl : gAt g (v - c) = b := hback
    have esub : ((v : Nat) : Int) - (c : Int) = ((v - c : Nat) : Int) := by omega
    walk_at "go"
    refine g_par3 ?_
    walk_at "go"
    refine g_ixT (.of e6) (gV_last ls c) ?_
    walk_at "go"
    rw [esub]
    rename_i fl hfl
    have oF : Off [] H7 (upd H7 fl (.lst [])) := .new hfl
    refine g_par33 ?_
    obtain ⟨KK, hK1, hK2⟩ := it.mem
    walk_at "go"
    refine g_while (fun mm σ H7 => ∃ j, σ = [some (.ref p), some (.int (s : Int)), some (.int (T0 : Int)), some (.ref d), some (.int (v : Int)), some (.int (b : Int)), some (.ref t), x7, some (.int ((v - c : Nat) : Int)), some (.int ((orb g s j : Nat) : Int)), some (.ref fl)] ∧ H7 fl = some (.lst (gV (List.replicate j 0))) ∧ j ≤ KK ∧ mm = KK - j ∧ Off [] H H7 ∧ H7 t = some (.tup (gV (ls ++ [c])))) KK
      ⟨0, rfl, upd_same, Nat.zero_le _, rfl, o16.trans oF, upd_new e6 hfl⟩ (fun mm σ H7 hW => ?_)
    obtain ⟨j, rfl, f1, f2', rfl, f4', htH7⟩ := hW
    have hoj := it.le j
    walk_at "go"
    refine br_d (fun c1 => ?_) (fun c1 => ?_)
    · refine g_whN ?_
      have hlen : (gV (List.replicate j 0)).length ≤ 100 := by rw [gV_len, List.length_replicate]; omega
      walk_at "go"
      rename_i H8 e8 o8
      have hfl0 : H fl = none := o16.back hfl
      have hp8 := (f4'.mutA o8 hfl0).seqT hp
      refine g_ixT hp8 (gV_at (by omega)) ?_
      walk_at "go"
      have hjK : j ≠ KK := fun e => by
        subst e
        omega
      refine ⟨_, ?_, j + 1, rfl, ?_, by omega, rfl, f4'.mutA o8 hfl0, o8.tups _ _ htH7⟩
      · omega
      · rw [e8, List.replicate_succ', gV_snoc]
        rfl
    walk_at "go"
    refine ⟨fl, _, rfl, .inr (.of f1), ?_⟩
    walk_at "go"
    have esub2 : ((orb g s j : Nat) : Int) - ((v - c : Nat) : Int) = ((orb g s j - (v - c) : Nat) : Int) := by omega
    rw [esub2]
    refine ⟨by rw [List.length_append, gV_len, List.length_replicate, sizeLine_eq]; simp; omega, fun t1 ht1 => ?_⟩
    have e71 : upd H7 t1 (.tup (gV (List.replicate j 0) ++ [.int ((orb g s j - (v - c) : Nat) : Int)])) t1 = some (.tup (gV (List.replicate j 0 ++ [orb g s j - (v - c)]))) := by rw [upd_same, gV_snoc]
    walk_at "go"
    rename_i rr hrr
    have hz : run g s (List.replicate j 0 ++ [orb g s j - (v - c)]) = b := by
      rw [run_app, run_zero]
      show gAt g (orb g s j - (orb g s j - (v - c))) = b
      rw [show orb g s j - (orb g s j - (v - c)) = v - c by omega]
      exact hgl
    have wz := tp_wgt _ way.tp
    rw [way.back] at wz
    refine q rr _ t1 t (List.replicate j 0 ++ [orb g s j - (v - c)]) (ls ++ [c]) upd_same (upd_new e71 hrr) (upd_new (upd_new htH7 ht1) hrr) ⟨?_, Nat.le_trans way.len (by decide), by simp, (okR_app _).mpr ⟨ok_zero j, ⟨by rw [run_zero]; omega, trivial⟩⟩, by rw [hz]; exact okc, by rw [hz, way.back]; exact Nat.le_refl _, ?_⟩ ((f4'.new2 ht1).new2 hrr)
    · rw [List.length_append, List.length_replicate, List.length_singleton]
      omega
    · unfold wgt at wz
      omega
theorem ok_fishing (T : Txt P w K mg) : DefOk P w K mg base "fishing" 5 ["growth", "start"] (spGS K (spFish K)) := (okL_fishing T).ok
end
end SH
end

section
/-! #### the walk's words -/
local macro_rules | `(tactic| walk_at "ne0") => `(tactic| first
  | assumption
  | (refine Ne.symm ?_; assumption))
local macro_rules | `(tactic| walk_at "ne") => `(tactic| first
  | assumption
  | (refine Ne.symm ?_; assumption)
  | (refine' L2.ne_of_none ?gx (by assumption); (case gx => walk_at "hp"))
  | (refine' Ne.symm (L2.ne_of_none ?gx (by assumption)); (case gx => walk_at "hp")))
local macro_rules | `(tactic| walk_at "hp") => `(tactic| first
  | assumption
  | exact L2.upd_same
  | (refine' SH.upd_new ?gh (by assumption); (case gh => walk_at "hp"))
  | (refine' (L2.upd_ne ?gn).trans ?gh; (case gn => walk_at "ne0"); (case gh => walk_at "hp"))
  | (refine' SH.Off.at (by assumption) ?gn ?gh; (case gn => walk_at "nin"); (case gh => walk_at "hp")))
local macro_rules | `(tactic| walk_at "nin") => `(tactic| first
  | exact SH.nin_nil
  | (refine SH.nin_cons ?_ ?_; (· walk_at "ne0"); (· walk_at "nin")))
local macro_rules | `(tactic| walk_at "sq") => `(tactic| first
  | assumption
  | (apply L2.SqL.of; (· walk_at "hp"))
  | (apply L2.SqT.of; (· walk_at "hp"))
  | (refine' SH.seqT_new ?gx (by assumption); (case gx => walk_at "sq"))
  | (refine' SH.seqL_new ?gx (by assumption); (case gx => walk_at "sq"))
  | (refine' SH.Off.seqT (by assumption) ?gx; (case gx => walk_at "sq"))
  | (refine' SH.Off.seqL (by assumption) ?gy ?gx; (case gx => walk_at "sq"); (case gy => walk_at "nin")))
local macro_rules | `(tactic| walk_at "kd") => `(tactic| first
  | assumption | exact SH.KdV.int _ | exact SH.KdV.bl _ | exact SH.KdV.str _ | exact SH.KdV.non
  | (apply SH.KdV.tup; (· walk_at "sq")) | (apply SH.KdV.lst; (· walk_at "sq")))
/-- a way that cannot be -/
local macro_rules | `(tactic| walk_at "no") => `(tactic| (exfalso; first | assumption | omega | contradiction | (simp_all; done)))
/-- one step -/
local macro_rules | `(tactic| walk_at "g1") => `(tactic| with_reducible first
  | refine SH.g_var (by with_unfolding_all rfl) ?_ | refine SH.g_c ?_ | refine SH.g_op ?_ | refine SH.g_un ?_ | refine SH.g_I0 ?_ | refine SH.g_U ?_
  | refine SH.g_eqI ?_ | refine SH.g_neI ?_ | refine SH.g_eqS ?_ | refine SH.g_neS ?_
  | refine SH.g_test ?_ | refine SH.g_B ?_ | refine SH.g_isB ?_ | refine SH.g_and ?_ | refine SH.g_or ?_ | refine SH.g_not ?_ | refine SH.g_andV ?_ | refine SH.g_orV ?_ | refine SH.g_notV ?_ | refine SH.g_ifE ?_ | refine SH.g_chain ?_
  | refine SH.g_nil ?_ | refine SH.g_cons ?_ | refine SH.g_tup ?_ | refine SH.g_lst ?_ | refine SH.g_call ?_ | refine SH.g_fld ?_ | refine SH.g_meth ?_ | refine SH.g_make ?_ | refine SH.g_cb ?_ | refine SH.g_bm ?_
  | refine SH.g_seq ?_ | refine SH.g_asg ?_ | refine SH.g_name ?_ | refine SH.g_drop ?_ | refine SH.g_ret ?_ | refine SH.g_retN ?_ | refine SH.g_next ?_ | refine SH.g_brk ?_ | refine SH.g_cnt ?_ | refine SH.g_ifs ?_ | refine SH.g_par ?_ | refine SH.g_par2 ?_ | refine SH.g_fldS ?_ | refine SH.g_raise ?_ | refine SH.g_rs ?_
  | refine SH.g_sub ?_ | refine SH.g_yes ?_ | refine SH.g_sl ?_ | refine SH.g_noPart ?_ | refine SH.g_part ?_ | refine SH.g_intO ?_ | refine SH.g_dget ?_ | refine SH.g_dput ?_ | refine SH.g_forR ?_ | refine SH.g_forL ?_ | refine SH.g_forT ?_ | refine SH.g_lcR ?_ | refine SH.g_lcL ?_ | refine SH.g_lcT ?_ | refine SH.g_gcons ?_ | refine SH.g_gnil ?_
  | refine SH.br_t ?_ | refine SH.br_f ?_
  | refine SH.g_int ?_ | refine SH.g_abs ?_ | refine SH.g_max2 ?_ | refine SH.g_min2 ?_)
local macro_rules | `(tactic| walk_at "g2") => `(tactic| first
  | walk_at "g1"
  | ((with_reducible refine' SH.g_isiInt ?ga ?gz); (case ga => walk_at "kd"))
  | ((with_reducible refine' SH.g_isiBool ?ga ?gz); (case ga => walk_at "kd"))
  | ((with_reducible refine' SH.g_isiStr ?ga ?gz); (case ga => walk_at "kd"))
  | ((with_reducible refine' SH.g_isiTup ?ga ?gz); (case ga => walk_at "kd"))
  | ((with_reducible refine' SH.g_ixT ?ga ?gb ?gz); (case ga => walk_at "sq"); (case gb => rfl))
  | ((with_reducible refine' SH.g_ixL ?ga ?gb ?gz); (case ga => walk_at "sq"); (case gb => first | rfl | (apply SH.atI_refs; assumption)))
  | ((with_reducible refine SH.br_F ?_ ?_); (· decide +kernel)) | ((with_reducible refine SH.br_T ?_ ?_); (· decide +kernel)) | ((with_reducible refine SH.br_NF ?_ ?_); (· decide +kernel)) | ((with_reducible refine SH.br_NT ?_ ?_); (· decide +kernel))
  | ((with_reducible refine' SH.g_gtup ?ga ?gb ?gz); (case ga => walk_at "sq"); (case gb => rfl))
  | ((with_reducible refine' SH.g_lenT ?ga ?gz); (case ga => walk_at "sq"))
  | ((with_reducible refine' SH.g_lenL ?ga ?gz); (case ga => walk_at "sq"))
  | ((with_reducible refine SH.g_mkT (SH.sz rfl) ?_); intro _ _)
  | ((with_reducible refine SH.g_mkL (SH.sz rfl) ?_); intro _ _)
  | ((with_reducible refine SH.g_dnew ?_); intro _ _)
  | ((with_reducible refine' SH.g_tupL ?ga ?gz); (case ga => walk_at "sq"); intro _ _)
  | ((with_reducible refine' SH.g_lstL ?ga ?gz); (case ga => walk_at "sq"); intro _ _)
  | ((with_reducible refine' SH.g_lstT ?ga ?gz); (case ga => walk_at "sq"); intro _ _)
  | ((with_reducible refine' SH.g_dgR ?ga ?gb ?gz); (case ga => walk_at "hp"); (case gb => walk_at "dv"))
  | ((with_reducible refine' SH.g_fldR ?ga ?gb ?gc ?gd ?gz); (case ga => walk_at "hp"); (case gb => walk_at "cl"); (case gc => walk_at "na"); (case gd => walk_at "fv"))
  | ((with_reducible refine' SH.g_insR ?ga ?gb ?gz); (case ga => walk_at "hp"); (case gb => walk_at "fn"))
  | ((with_reducible refine' SH.g_setL ?ga ?gb ?gz); (case ga => walk_at "hp"); (case gb => rfl))
  | ((with_reducible refine SH.g_I ?_ ?_); (· walk_at "ci"))
  | ((with_reducible refine' SH.g_slL ?ga ?gz); (case ga => walk_at "sq"); intro _ _)
  | ((with_reducible refine' SH.g_cat ?ga ?gb ?gc ?gz); (case ga => walk_at "hp"); (case gb => walk_at "hp"); (case gc => walk_at "ls"); intro _ _))
/-- the side conditions of numbers: a divisor, a factor -/
local macro_rules | `(tactic| walk_at "ci") => `(tactic| first
  | (show _ ≠ _; omega) | (show _ < _; omega) | (constructor <;> omega) | (refine Or.inr ⟨?_, ?_⟩ <;> (show _ < _; omega)) | (refine Or.inl ⟨?_, ?_⟩ <;> (show _ < _; omega)) | (refine ⟨?_, ?_, ?_⟩ <;> decide))
local macro_rules | `(tactic| walk_at "ls") => `(tactic| first | (show _ ≤ _; exact Nat.le_trans (by assumption) (by decide)) | (show _ ≤ _; exact Nat.le_trans (by simp; omega) (by decide : 1000 ≤ sizeLine)))
local macro_rules | `(tactic| walk_at "dv") => `(tactic| rfl)
local macro_rules | `(tactic| walk_at "fv") => `(tactic| rfl)
local macro_rules | `(tactic| walk_at "fn") => `(tactic| rfl)
local macro_rules | `(tactic| walk_at "cl") => `(tactic| assumption)
local macro_rules | `(tactic| walk_at "na") => `(tactic| assumption)
local macro_rules | `(tactic| walk_at "go") => `(tactic| repeat walk_at "g2")
/-- a way is split -/
local macro_rules | `(tactic| walk_at "br") => `(tactic| with_reducible first
  | refine SH.br_d (fun _ => ?_) (fun _ => ?_) | refine SH.br_nd (fun _ => ?_) (fun _ => ?_) | refine SH.br_b (fun _ => ?_) (fun _ => ?_))
/-- all ways -/
local macro_rules | `(tactic| walk_at "all") => `(tactic| repeat' first | walk_at "g2" | (walk_at "br" <;> try (walk_at "no")))
/-- a truth value is the other -/
local macro_rules | `(tactic| walk_at "bq") => `(tactic| first | rfl | (simp_all; done) | (simp_all; omega) | (simp only [decide_eq_true_eq, decide_eq_false_iff_not, Bool.and_eq_true, Bool.or_eq_true] at *; omega))
/-- what was tracked is as it was -/
local macro_rules | `(tactic| walk_at "of") => `(tactic| first
  | assumption
  | exact SH.Off.refl _ _
  | (refine' SH.Off.new2 ?gx (by assumption); (case gx => walk_at "of"))
  | (refine' SH.Off.mut ?gx (by assumption); (case gx => walk_at "of"))
  | (refine' SH.Off.trans' ?gx (by assumption) ?gy; (case gy => (intro _ h; (first | exact h | (simp at h; done) | (simp at h ⊢; simp [h]; done)))); (case gx => walk_at "of")))
/-- kinds; parts of tuples; stars -/
local macro_rules | `(tactic| walk_at "g2") => `(tactic| first
  | (with_reducible first | refine SH.br_ntt ?_ | refine SH.br_ntf ?_ | refine SH.br_k ?_ | refine SH.br_nk ?_ | refine SH.g_star ?_ | refine SH.g_forR2 ?_ | refine SH.g_lcZ ?_ | refine SH.g_enL ?_)
  | ((with_reducible refine' SH.g_slA ?ga ?gz); (case ga => walk_at "sq"); intro _ _ _ _)
  | ((with_reducible refine' SH.g_app' ?ga ?gb ?gz); (case ga => walk_at "hp"); (case gb => walk_at "lt"); intro _ _ _)
  | ((with_reducible refine' SH.g_bml ?ga ?gz); (case ga => walk_at "sq"))
  | ((with_reducible refine' SH.g_popF ?ga ?gz); (case ga => walk_at "hp"); intro _ _ _)
  | (with_reducible first | refine SH.g_pnil ?_ | refine SH.g_pcons ?_ | (refine SH.g_disp ?_; intro _ _))
  | ((with_reducible refine' SH.g_kw ?gz))
  | ((with_reducible refine SH.g_kwR rfl ?_)))
local macro_rules | `(tactic| walk_at "lt") => `(tactic| (rw [PySem.sizeLine_eq]; omega))
namespace SH
open PySem PySem.Spec PyProof.Rows L2
/-! ### fishing judged -/
def natB : V → Bool
  | .int i => decide (0 ≤ i)
  | _ => false
theorem natB_gV : ∀ cs : List Nat, (gV cs).all natB = true
  | [] => rfl
  | c :: cs => by
    show (decide ((0 : Int) ≤ (c : Int)) && (gV cs).all natB) = true
    rw [natB_gV cs, decide_eq_true (by omega)]
    rfl
theorem flB_gV : ∀ cs : List Nat, (gV cs).all flB = true
  | [] => rfl
  | c :: cs => flB_gV cs
/-- a part of fishing: flat values in a tuple, or no tuple -/
def CatA (K : PySem.W.Frag) (H : Hp) (x : V) : Prop := (∃ p xs, x = .ref p ∧ SqT K H p xs ∧ xs.all flB = true ∧ xs.length ≤ 1000) ∨ ∃ k, KdV K H x k ∧ k ≠ .tup
def catB (least : Int) (xs : List V) : Bool := (decide (least ≤ (xs.length : Int)) && decide ((xs.length : Int) ≤ 200)) && xs.all natB
/-- it is not catches -/
def CatN (K : PySem.W.Frag) (H : Hp) (x : V) (least : Int) : Prop := (∃ p xs, x = .ref p ∧ SqT K H p xs ∧ xs.all flB = true ∧ xs.length ≤ 1000 ∧ catB least xs = false) ∨ ∃ k, KdV K H x k ∧ k ≠ .tup
def Sure (g : List Nat) (s : Nat) (zs cs : List Nat) : Prop := okR g s zs ∧ okR g (run g s zs) cs ∧ run g s zs ≤ run g (run g s zs) cs
open Classical in
/-- what fishing tells: the sum and the number of what is caught again and again, if it is sure -/
noncomputable def fishO (g : List Nat) (s : Nat) (zs cs : List Nat) : Option (Int × Int) := if Sure g s zs cs then some (sumN cs, (cs.length : Int)) else none
structure FGood (K : PySem.W.Frag) (H : Hp) (v : V) (zs cs : List Nat) : Prop where
  at_ : ∃ t p1 p2, v = .ref t ∧ SqT K H t [.ref p1, .ref p2] ∧ SqT K H p1 (gV zs) ∧ SqT K H p2 (gV cs)
  l1 : zs.length ≤ 200
  l2 : 1 ≤ cs.length
  l3 : cs.length ≤ 200
def FBad (K : PySem.W.Frag) (H : Hp) (v : V) : Prop := (∃ t x y, v = .ref t ∧ SqT K H t [x, y] ∧ CatA K H x ∧ CatA K H y ∧ (CatN K H x 0 ∨ CatN K H y 1)) ∨ (∃ t xs, v = .ref t ∧ SqT K H t xs ∧ xs.length ≠ 2) ∨ ∃ k, KdV K H v k ∧ k ≠ .tup
def FV (K : PySem.W.Frag) (H : Hp) (g : List Nat) (s : Nat) (v : V) (o : Option (Int × Int)) : Prop := (∃ zs cs, FGood K H v zs cs ∧ o = fishO g s zs cs) ∨ (FBad K H v ∧ o = none)
def spAreC (K : PySem.W.Frag) : Sp := fun vs H Q _ => ∃ (v : V) (least : Int) (b : Bool), vs = [v, .int least] ∧ ((∃ p xs, v = .ref p ∧ SqT K H p xs ∧ xs.all flB = true ∧ xs.length ≤ 1000 ∧ b = catB least xs) ∨ (∃ k, KdV K H v k ∧ k ≠ .tup ∧ b = false)) ∧ ∀ H', Off [] H H' → Q (.bl b) H'
def spBehind (K : PySem.W.Frag) : Sp := fun vs H Q _ => ∃ p g s t cs, vs = [.ref p, .int ((s : Nat) : Int), .ref t] ∧ SqT K H p (gV g) ∧ GrOk g ∧ s < g.length ∧ SqT K H t (gV cs) ∧ (okR g s cs → Q (.int ((run g s cs : Nat) : Int)) H) ∧ (¬ okR g s cs → Q .non H)
def spIsFish (K : PySem.W.Frag) : Sp := fun vs H Q E => ∃ v u x, vs = [v, u, x] ∧ ((∃ p g s, StkA K H v u p g s ∧ ∃ o, (∀ H', Off [] H H' → FV K H' g s x o) ∧
    ∀ r H', (r = true ↔ ∃ a n, o = some (a, n) ∧ a * (bestM g (topOf g s)).2 = (bestM g (topOf g s)).1 * n) → Off [] H H' → Q (.bl r) H') ∨
  (∃ nm, BadS K H v u nm ∧ ∀ H', Off [] H H' → RaiseW (He.ga K "BadArgument") "name" (.str nm) H' E))
theorem GrOk.run_lt {g : List Nat} (G : GrOk g) : ∀ (cs : List Nat) {s : Nat}, s < g.length → run g s cs < g.length
  | [], _, h => h
  | c :: cs, s, h => G.run_lt cs (G.lt _ (by omega))
theorem gV_elem {cs : List Nat} {i : Nat} {x : V} (hi : (gV cs)[i]? = some x) : ∃ c : Nat, cs[i]? = some c ∧ x = .int (c : Int) := by
  unfold gV gI at hi
  rw [List.getElem?_map, List.getElem?_map] at hi
  cases hc : cs[i]? with
  | none => rw [hc] at hi; cases hi
  | some c =>
    rw [hc] at hi
    cases hi
    exact ⟨c, rfl, rfl⟩
theorem okR_all {g : List Nat} (G : GrOk g) : ∀ (cs : List Nat) {s : Nat}, s < g.length → okR g s cs → ∀ c ∈ cs, c ≤ 30
  | [], _, _, _, c, hc => by cases hc
  | c0 :: cs, s, hs, ok, c, hc => by
    have n1 := G.n1
    rcases List.mem_cons.mp hc with rfl | hc
    · have := ok.1
      omega
    · exact okR_all G cs (G.lt _ (by omega)) ok.2 c hc
theorem sumN_gI : ∀ cs : List Nat, (gI cs).sum = sumN cs
  | [] => rfl
  | c :: cs => by
    show ((c : Int) :: gI cs).sum = (c : Int) + sumN cs
    rw [List.sum_cons, sumN_gI cs]
section
variable {P : Program} {w : World} {K : PySem.W.Frag} {mg : Str → Option Value} {base : Heap}
theorem ok_are_catches (T : Txt P w K mg) : DefOk P w K mg base "are_catches" 2 ["value", "least"] (spAreC K) := by
  refine T.d_are_catches.ok sc_are_catches (fun _ _ _ _ _ _ us hl => match us, hl with | [_, _], _ => rfl) (fun vs H Q E h => ?_) (fun f cdv A outer s H vs Q E hr h => ?_)
  · obtain ⟨v, least, b, rfl, _⟩ := h
    rfl
  · obtain ⟨v, least, b, rfl, hb, q⟩ := h
    have B := T.blt
    have hu := hu_of hr
    have G_are_between := ok_are_between (base := base) T
    have c_MOST_SEASONS := T.c_MOST_SEASONS
    have G_is_integer := ok_is_integer (base := base) T
    refine ⟨_, (pss_one (ps_ret (pe_and (pe_df G_are_between (hr.mono (by decide)) (L2N.passes_call (L2N.takes_of rfl rfl rfl rfl) fun _ _ _ _ z => z) (pa_cons (pv 0) (pa_cons (pv 1) (pa_cons (pe_cint c_MOST_SEASONS) pa_nil)))) (pe_one (pe_callB (cr_allK (K := K) rfl rfl) (by rfl) B.b_all (by decide +kernel) (pa_cons (pe_lc (own := [("catch", 2)]) rfl sc_are_catches.nd (pi_tupK (K := K) rfl (pv 0)) (blkOk_by (own := [("catch", 2)]) (N := ["value", "least", "catch"]) (sc := defScope s_are_catches) (by decide +kernel)) (fun _ _ _ _ _ => (pg_name (i := 2) sc_are_catches.nd rfl (by first | exact Or.inl rfl | exact Or.inr rfl))) (fun _ _ _ _ _ => pts_nil) (fun _ _ _ _ _ => (pe_and (pe_df G_is_integer (hr.mono (by decide)) passN (pa_cons (pv 2) pa_nil)) (pe_one (pe_cmpR op_ge (pv 2) pe_int (nomark _)))))) pa_nil)))))), ?_⟩
    rcases hb with ⟨p, xs, rfl, hp, hfl, hlen, rfl⟩ | ⟨k, hk, nk, rfl⟩
    rotate_left 1
    · walk_at "go"
      refine ⟨v, _, 200, _, rfl, .inr ⟨k, hk, nk, rfl⟩, ?_⟩
      walk_at "go"
      exact q H (.refl _ _)
    walk_at "go"
    refine ⟨.ref p, _, 200, _, rfl, .inl ⟨p, xs, rfl, hp, rfl⟩, ?_⟩
    unfold catB at q
    walk_at "go"
    refine br_b (fun c1 => ?_) (fun c1 => ?_)
    rotate_left 1
    · rw [c1] at q
      walk_at "go"
      exact q H (.refl _ _)
    rw [c1, Bool.true_and] at q
    walk_at "go"
    refine lcT_pure (fun x => .bl (natB x)) (fun _ => true) hp (by rw [sizeLine_eq]; omega) (fun _ => rfl) (fun x H1 hx o1 M kk => ?_) (fun x H1 hx hc1 o1 M kk => ?_) (fun D H1 hD o1 e4 => ?_)
    · walk_at "go"
      exact kk _ (.refl _ _)
    · have hfx := List.all_eq_true.mp hfl x hx
      walk_at "go"
      cases x with
      | int i =>
        refine ⟨_, _, rfl, .int i, ?_⟩
        walk_at "go"
        exact kk _ (.refl _ _)
      | str z =>
        refine ⟨_, _, rfl, .str z, ?_⟩
        walk_at "go"
        exact kk _ (.refl _ _)
      | bl z =>
        refine ⟨_, _, rfl, .bl z, ?_⟩
        walk_at "go"
        exact kk _ (.refl _ _)
      | non =>
        refine ⟨_, _, rfl, .non, ?_⟩
        walk_at "go"
        exact kk _ (.refl _ _)
      | _ => cases hfx
    have ez : (xs.filter fun _ => true).map (fun x => V.bl (natB x)) = (xs.map natB).map V.bl := by
      rw [List.filter_eq_self.mpr (fun _ _ => rfl), List.map_map]; rfl
    rw [ez] at e4
    walk_at "go"
    refine ⟨D, _, rfl, .of e4, ?_⟩
    have ea : (xs.map natB).all id = xs.all natB := by
      rw [List.all_map]
      rfl
    rw [ea]
    exact q H1 o1
theorem ok_stock_behind (T : Txt P w K mg) : DefOk P w K mg base "stock_behind" 1 ["growth", "stock", "catches"] (spBehind K) := by
  refine T.d_stock_behind.ok sc_stock_behind (fun _ _ _ _ _ _ us hl => match us, hl with | [_, _, _], _ => rfl) (fun vs H Q E h => ?_) (fun f cdv A outer s H vs Q E hr h => ?_)
  · obtain ⟨p, g, s, t, cs, rfl, _⟩ := h
    rfl
  · obtain ⟨p, g, s, t, cs, rfl, hp, G, hs, ht, q1, q2⟩ := h
    have B := T.blt
    have hu := hu_of hr
    refine ⟨_, (pss_cons (ps_for (passes_of rfl) rfl (pi_tupK (K := K) rfl (pv 2)) (pg_name (i := 3) sc_stock_behind.nd rfl (by first | exact Or.inl rfl | exact Or.inr rfl))
    (pss_cons (ps_if (pt_cmpR op_gt (pv 3) (pv 1) (nomark _))
    (pss_one (ps_ret pe_non))
    pss_nil)
  (pss_one (ps_set (i := 1) sc_stock_behind.nd rfl (by first | exact Or.inl rfl | exact Or.inr rfl) (pe_ix (ix_tupK (K := K) rfl) (pv 0) (pe_op op_sub (pv 1) (pv 3)) (fun _ _ => rfl))))))
  (pss_one (ps_ret (pv 1)))), ?_⟩
    walk_at "go"
    refine forT_mk (fun i σ H1 => ∃ x3, σ = [some (.ref p), some (.int ((run g s (cs.take i) : Nat) : Int)), some (.ref t), x3] ∧ H1 = H ∧ okR g s (cs.take i)) ht ⟨_, rfl, rfl, trivial⟩ (fun i σ H1 hi hP => by rw [hP.choose_spec.2.1]; exact ht) (fun i x σ H1 hi hP => ?_) (fun σ H1 hP => ?_)
    · obtain ⟨x3, rfl, rfl, ok⟩ := hP
      obtain ⟨c, hc, rfl⟩ := gV_elem hi
      have et : cs.take (i + 1) = cs.take i ++ [c] := by rw [List.take_add_one, hc]; rfl
      have hii := (List.getElem?_eq_some_iff.mp hc).1
      have hr := G.run_lt (cs.take i) hs
      rw [et]
      walk_at "go"
      refine br_d (fun c1 => ?_) (fun c1 => ?_)
      · walk_at "go"
        refine q2 fun okc => ?_
        have eall : cs = cs.take i ++ c :: cs.drop (i + 1) := by
          have hc2 := hc
          rw [List.getElem?_eq_getElem hii] at hc2
          rw [← Option.some.inj hc2, ← List.drop_eq_getElem_cons hii, List.take_append_drop]
        rw [eall] at okc
        have := ((okR_app _).mp okc).2.1
        omega
      · have esub : ((run g s (cs.take i) : Nat) : Int) - (c : Int) = ((run g s (cs.take i) - c : Nat) : Int) := by omega
        walk_at "go"
        rw [esub]
        refine g_ixT hp (gV_at (by omega)) ?_
        walk_at "go"
        refine ⟨some (.int (c : Int)), ?_, rfl, (okR_app _).mpr ⟨ok, by omega, trivial⟩⟩
        rw [run_app]
        rfl
    · obtain ⟨x3, rfl, rfl, ok⟩ := hP
      rw [gV_len, List.take_length] at ok ⊢
      walk_at "go"
      exact q1 ok
end
end SH
end

section
/-! #### the walk's words -/
local macro_rules | `(tactic| walk_at "ne0") => `(tactic| first
  | assumption
  | (refine Ne.symm ?_; assumption))
local macro_rules | `(tactic| walk_at "ne") => `(tactic| first
  | assumption
  | (refine Ne.symm ?_; assumption)
  | (refine' L2.ne_of_none ?gx (by assumption); (case gx => walk_at "hp"))
  | (refine' Ne.symm (L2.ne_of_none ?gx (by assumption)); (case gx => walk_at "hp")))
local macro_rules | `(tactic| walk_at "hp") => `(tactic| first
  | assumption
  | exact L2.upd_same
  | (refine' SH.upd_new ?gh (by assumption); (case gh => walk_at "hp"))
  | (refine' (L2.upd_ne ?gn).trans ?gh; (case gn => walk_at "ne0"); (case gh => walk_at "hp"))
  | (refine' SH.Off.at (by assumption) ?gn ?gh; (case gn => walk_at "nin"); (case gh => walk_at "hp")))
local macro_rules | `(tactic| walk_at "nin") => `(tactic| first
  | exact SH.nin_nil
  | (refine SH.nin_cons ?_ ?_; (· walk_at "ne0"); (· walk_at "nin")))
local macro_rules | `(tactic| walk_at "sq") => `(tactic| first
  | assumption
  | (apply L2.SqL.of; (· walk_at "hp"))
  | (apply L2.SqT.of; (· walk_at "hp"))
  | (refine' SH.seqT_new ?gx (by assumption); (case gx => walk_at "sq"))
  | (refine' SH.seqL_new ?gx (by assumption); (case gx => walk_at "sq"))
  | (refine' SH.Off.seqT (by assumption) ?gx; (case gx => walk_at "sq"))
  | (refine' SH.Off.seqL (by assumption) ?gy ?gx; (case gx => walk_at "sq"); (case gy => walk_at "nin")))
local macro_rules | `(tactic| walk_at "kd") => `(tactic| first
  | assumption | exact SH.KdV.int _ | exact SH.KdV.bl _ | exact SH.KdV.str _ | exact SH.KdV.non
  | (apply SH.KdV.tup; (· walk_at "sq")) | (apply SH.KdV.lst; (· walk_at "sq")))
/-- a way that cannot be -/
local macro_rules | `(tactic| walk_at "no") => `(tactic| (exfalso; first | assumption | omega | contradiction | (simp_all; done)))
/-- one step -/
local macro_rules | `(tactic| walk_at "g1") => `(tactic| with_reducible first
  | refine SH.g_var (by with_unfolding_all rfl) ?_ | refine SH.g_c ?_ | refine SH.g_op ?_ | refine SH.g_un ?_ | refine SH.g_I0 ?_ | refine SH.g_U ?_
  | refine SH.g_eqI ?_ | refine SH.g_neI ?_ | refine SH.g_eqS ?_ | refine SH.g_neS ?_
  | refine SH.g_test ?_ | refine SH.g_B ?_ | refine SH.g_isB ?_ | refine SH.g_and ?_ | refine SH.g_or ?_ | refine SH.g_not ?_ | refine SH.g_andV ?_ | refine SH.g_orV ?_ | refine SH.g_notV ?_ | refine SH.g_ifE ?_ | refine SH.g_chain ?_
  | refine SH.g_nil ?_ | refine SH.g_cons ?_ | refine SH.g_tup ?_ | refine SH.g_lst ?_ | refine SH.g_call ?_ | refine SH.g_fld ?_ | refine SH.g_meth ?_ | refine SH.g_make ?_ | refine SH.g_cb ?_ | refine SH.g_bm ?_
  | refine SH.g_seq ?_ | refine SH.g_asg ?_ | refine SH.g_name ?_ | refine SH.g_drop ?_ | refine SH.g_ret ?_ | refine SH.g_retN ?_ | refine SH.g_next ?_ | refine SH.g_brk ?_ | refine SH.g_cnt ?_ | refine SH.g_ifs ?_ | refine SH.g_par ?_ | refine SH.g_par2 ?_ | refine SH.g_fldS ?_ | refine SH.g_raise ?_ | refine SH.g_rs ?_
  | refine SH.g_sub ?_ | refine SH.g_yes ?_ | refine SH.g_sl ?_ | refine SH.g_noPart ?_ | refine SH.g_part ?_ | refine SH.g_intO ?_ | refine SH.g_dget ?_ | refine SH.g_dput ?_ | refine SH.g_forR ?_ | refine SH.g_forL ?_ | refine SH.g_forT ?_ | refine SH.g_lcR ?_ | refine SH.g_lcL ?_ | refine SH.g_lcT ?_ | refine SH.g_gcons ?_ | refine SH.g_gnil ?_
  | refine SH.br_t ?_ | refine SH.br_f ?_
  | refine SH.g_int ?_ | refine SH.g_abs ?_ | refine SH.g_max2 ?_ | refine SH.g_min2 ?_)
local macro_rules | `(tactic| walk_at "g2") => `(tactic| first
  | walk_at "g1"
  | ((with_reducible refine' SH.g_isiInt ?ga ?gz); (case ga => walk_at "kd"))
  | ((with_reducible refine' SH.g_isiBool ?ga ?gz); (case ga => walk_at "kd"))
  | ((with_reducible refine' SH.g_isiStr ?ga ?gz); (case ga => walk_at "kd"))
  | ((with_reducible refine' SH.g_isiTup ?ga ?gz); (case ga => walk_at "kd"))
  | ((with_reducible refine' SH.g_ixT ?ga ?gb ?gz); (case ga => walk_at "sq"); (case gb => rfl))
  | ((with_reducible refine' SH.g_ixL ?ga ?gb ?gz); (case ga => walk_at "sq"); (case gb => first | rfl | (apply SH.atI_refs; assumption)))
  | ((with_reducible refine SH.br_F ?_ ?_); (· decide +kernel)) | ((with_reducible refine SH.br_T ?_ ?_); (· decide +kernel)) | ((with_reducible refine SH.br_NF ?_ ?_); (· decide +kernel)) | ((with_reducible refine SH.br_NT ?_ ?_); (· decide +kernel))
  | ((with_reducible refine' SH.g_gtup ?ga ?gb ?gz); (case ga => walk_at "sq"); (case gb => rfl))
  | ((with_reducible refine' SH.g_lenT ?ga ?gz); (case ga => walk_at "sq"))
  | ((with_reducible refine' SH.g_lenL ?ga ?gz); (case ga => walk_at "sq"))
  | ((with_reducible refine SH.g_mkT (SH.sz rfl) ?_); intro _ _)
  | ((with_reducible refine SH.g_mkL (SH.sz rfl) ?_); intro _ _)
  | ((with_reducible refine SH.g_dnew ?_); intro _ _)
  | ((with_reducible refine' SH.g_tupL ?ga ?gz); (case ga => walk_at "sq"); intro _ _)
  | ((with_reducible refine' SH.g_lstL ?ga ?gz); (case ga => walk_at "sq"); intro _ _)
  | ((with_reducible refine' SH.g_lstT ?ga ?gz); (case ga => walk_at "sq"); intro _ _)
  | ((with_reducible refine' SH.g_dgR ?ga ?gb ?gz); (case ga => walk_at "hp"); (case gb => walk_at "dv"))
  | ((with_reducible refine' SH.g_fldR ?ga ?gb ?gc ?gd ?gz); (case ga => walk_at "hp"); (case gb => walk_at "cl"); (case gc => walk_at "na"); (case gd => walk_at "fv"))
  | ((with_reducible refine' SH.g_insR ?ga ?gb ?gz); (case ga => walk_at "hp"); (case gb => walk_at "fn"))
  | ((with_reducible refine' SH.g_setL ?ga ?gb ?gz); (case ga => walk_at "hp"); (case gb => rfl))
  | ((with_reducible refine SH.g_I ?_ ?_); (· walk_at "ci"))
  | ((with_reducible refine' SH.g_slL ?ga ?gz); (case ga => walk_at "sq"); intro _ _)
  | ((with_reducible refine' SH.g_cat ?ga ?gb ?gc ?gz); (case ga => walk_at "hp"); (case gb => walk_at "hp"); (case gc => walk_at "ls"); intro _ _))
/-- the side conditions of numbers: a divisor, a factor -/
local macro_rules | `(tactic| walk_at "ci") => `(tactic| first
  | (show _ ≠ _; omega) | (show _ < _; omega) | (constructor <;> omega) | (refine Or.inr ⟨?_, ?_⟩ <;> (show _ < _; omega)) | (refine Or.inl ⟨?_, ?_⟩ <;> (show _ < _; omega)) | (refine ⟨?_, ?_, ?_⟩ <;> decide))
local macro_rules | `(tactic| walk_at "ls") => `(tactic| first | (show _ ≤ _; exact Nat.le_trans (by assumption) (by decide)) | (show _ ≤ _; exact Nat.le_trans (by simp; omega) (by decide : 1000 ≤ sizeLine)))
local macro_rules | `(tactic| walk_at "dv") => `(tactic| rfl)
local macro_rules | `(tactic| walk_at "fv") => `(tactic| rfl)
local macro_rules | `(tactic| walk_at "fn") => `(tactic| rfl)
local macro_rules | `(tactic| walk_at "cl") => `(tactic| assumption)
local macro_rules | `(tactic| walk_at "na") => `(tactic| assumption)
local macro_rules | `(tactic| walk_at "go") => `(tactic| repeat walk_at "g2")
/-- a way is split -/
local macro_rules | `(tactic| walk_at "br") => `(tactic| with_reducible first
  | refine SH.br_d (fun _ => ?_) (fun _ => ?_) | refine SH.br_nd (fun _ => ?_) (fun _ => ?_) | refine SH.br_b (fun _ => ?_) (fun _ => ?_))
/-- all ways -/
local macro_rules | `(tactic| walk_at "all") => `(tactic| repeat' first | walk_at "g2" | (walk_at "br" <;> try (walk_at "no")))
/-- a truth value is the other -/
local macro_rules | `(tactic| walk_at "bq") => `(tactic| first | rfl | (simp_all; done) | (simp_all; omega) | (simp only [decide_eq_true_eq, decide_eq_false_iff_not, Bool.and_eq_true, Bool.or_eq_true] at *; omega))
/-- what was tracked is as it was -/
local macro_rules | `(tactic| walk_at "of") => `(tactic| first
  | assumption
  | exact SH.Off.refl _ _
  | (refine' SH.Off.new2 ?gx (by assumption); (case gx => walk_at "of"))
  | (refine' SH.Off.mut ?gx (by assumption); (case gx => walk_at "of"))
  | (refine' SH.Off.trans' ?gx (by assumption) ?gy; (case gy => (intro _ h; (first | exact h | (simp at h; done) | (simp at h ⊢; simp [h]; done)))); (case gx => walk_at "of")))
/-- kinds; parts of tuples; stars -/
local macro_rules | `(tactic| walk_at "g2") => `(tactic| first
  | (with_reducible first | refine SH.br_ntt ?_ | refine SH.br_ntf ?_ | refine SH.br_k ?_ | refine SH.br_nk ?_ | refine SH.g_star ?_ | refine SH.g_forR2 ?_ | refine SH.g_lcZ ?_ | refine SH.g_enL ?_)
  | ((with_reducible refine' SH.g_slA ?ga ?gz); (case ga => walk_at "sq"); intro _ _ _ _)
  | ((with_reducible refine' SH.g_app' ?ga ?gb ?gz); (case ga => walk_at "hp"); (case gb => walk_at "lt"); intro _ _ _)
  | ((with_reducible refine' SH.g_bml ?ga ?gz); (case ga => walk_at "sq"))
  | ((with_reducible refine' SH.g_popF ?ga ?gz); (case ga => walk_at "hp"); intro _ _ _)
  | (with_reducible first | refine SH.g_pnil ?_ | refine SH.g_pcons ?_ | (refine SH.g_disp ?_; intro _ _))
  | ((with_reducible refine' SH.g_kw ?gz))
  | ((with_reducible refine SH.g_kwR rfl ?_)))
local macro_rules | `(tactic| walk_at "lt") => `(tactic| (rw [PySem.sizeLine_eq]; omega))
namespace SH
open PySem PySem.Spec PyProof.Rows L2
theorem catB_gV {cs : List Nat} {least : Int} (h1 : least ≤ (cs.length : Int)) (h2 : cs.length ≤ 200) : catB least (gV cs) = true := by
  unfold catB
  rw [gV_len, natB_gV, decide_eq_true h1, decide_eq_true (by omega)]
  rfl
theorem KdV.offN {K : PySem.W.Frag} {H H' : Hp} {v : V} {kd : Kd} (hk : KdV K H v kd) (o : Off [] H H') : KdV K H' v kd := by
  cases hk with
  | non => exact .non
  | bl b => exact .bl b
  | int i => exact .int i
  | str z => exact .str z
  | @lst a xs h => exact .lst (o.seqL nin_nil h)
  | tup h => exact .tup (o.seqT h)
  | dct h => exact .dct (o.at nin_nil h)
/-- what are_catches tells of a part -/
theorem CatA.tells {K : PySem.W.Frag} {H : Hp} {x : V} {least : Int} (h : CatA K H x) : (∃ p xs, x = .ref p ∧ SqT K H p xs ∧ xs.all flB = true ∧ xs.length ≤ 1000) ∨ (∃ k, KdV K H x k ∧ k ≠ .tup) := h
section
variable {P : Program} {w : World} {K : PySem.W.Frag} {mg : Str → Option Value} {base : Heap}
theorem okL_is_fishing (T : Txt P w K mg) : DefL P w K mg base "is_fishing" 5 ["growth", "start", "value"] (spIsFish K) := by
  refine T.d_is_fishing.okL sc_is_fishing (fun _ _ _ _ _ _ us hl => match us, hl with | [_, _, _], _ => rfl) (fun vs H Q E h => ?_) (fun f cdv A outer s H vs Q E hr h => ?_)
  · obtain ⟨v, u, x, rfl, _⟩ := h
    rfl
  · obtain ⟨v, u, x, rfl, h⟩ := h
    have B := T.blt
    have hu := hu_of hr
    have G_demand_stock := ok_demand_stock (base := base) T
    have G_stock_behind := ok_stock_behind (base := base) T
    have G_best_mean := ok_best_mean (base := base) T
    have G_top_of := ok_top_of (base := base) T
    have G_is_tuple_of := ok_is_tuple_of (base := base) T
    have G_are_catches := ok_are_catches (base := base) T
    refine ⟨_, (pss_cons (ps_expr (pe_df G_demand_stock (hr.mono (by decide)) (L2N.passes_call (L2N.takes_of rfl rfl rfl rfl) fun _ _ _ _ z => z) (pa_cons (pv 0) (pa_cons (pv 1) pa_nil))))
  (pss_cons (ps_if (PW.pt (pw_or (pt_not (pt_val (pe_df G_is_tuple_of (hr.mono (by decide)) (L2N.passes_call (L2N.takes_of rfl rfl rfl rfl) fun _ _ _ _ z => z) (pa_cons (pv 2) (pa_cons pe_int pa_nil))) (by intro _; rfl))) (pw_or (pt_not (pt_val (pe_df G_are_catches (hr.mono (by decide)) (L2N.passes_call (L2N.takes_of rfl rfl rfl rfl) fun _ _ _ _ z => z) (pa_cons (pe_ix (ix_tupK (K := K) rfl) (pv 2) pe_int (fun _ _ => rfl)) (pa_cons pe_int pa_nil))) (by intro _; rfl))) (pw_or1 (pt_not (pt_val (pe_df G_are_catches (hr.mono (by decide)) (L2N.passes_call (L2N.takes_of rfl rfl rfl rfl) fun _ _ _ _ z => z) (pa_cons (pe_ix (ix_tupK (K := K) rfl) (pv 2) pe_int (fun _ _ => rfl)) (pa_cons pe_int pa_nil))) (by intro _; rfl)))))))
    (pss_one (ps_ret pe_bl))
    pss_nil)
  (pss_cons (ps_set (i := 3) sc_is_fishing.nd rfl (by first | exact Or.inl rfl | exact Or.inr rfl) (pe_df G_stock_behind (hr.mono (by decide)) (L2N.passes_call (L2N.takes_of rfl rfl rfl rfl) fun _ _ _ _ z => z) (pa_cons (pv 0) (pa_cons (pv 1) (pa_cons (pe_ix (ix_tupK (K := K) rfl) (pv 2) pe_int (fun _ _ => rfl)) pa_nil)))))
  (pss_cons (ps_set (i := 4) sc_is_fishing.nd rfl (by first | exact Or.inl rfl | exact Or.inr rfl) (pe_ifExp (pt_cmpR op_isN (pv 3) pe_non (nomark _)) pe_non (pe_df G_stock_behind (hr.mono (by decide)) (L2N.passes_call (L2N.takes_of rfl rfl rfl rfl) fun _ _ _ _ z => z) (pa_cons (pv 0) (pa_cons (pv 3) (pa_cons (pe_ix (ix_tupK (K := K) rfl) (pv 2) pe_int (fun _ _ => rfl)) pa_nil))))))
  (pss_cons (ps_if (PW.pt (pw_or (pt_cmpR op_isN (pv 4) pe_non (nomark _)) (pw_or1 (pt_cmpR op_lt (pv 4) (pv 3) (nomark _)))))
    (pss_one (ps_ret pe_bl))
    pss_nil)
  (pss_cons (ps_asg (pe_df G_best_mean (hr.mono (by decide)) (L2N.passes_call (L2N.takes_of rfl rfl rfl rfl) fun _ _ _ _ z => z) (pa_cons (pv 0) (pa_cons (pe_df G_top_of (hr.mono (by decide)) (L2N.passes_call (L2N.takes_of rfl rfl rfl rfl) fun _ _ _ _ z => z) (pa_cons (pv 0) (pa_cons (pv 1) pa_nil))) pa_nil))) (pg_tupK (K := K) (n := 2) rfl rfl (pgs_cons (pg_name (i := 5) sc_is_fishing.nd rfl (by first | exact Or.inl rfl | exact Or.inr rfl)) (pgs_cons (pg_name (i := 6) sc_is_fishing.nd rfl (by first | exact Or.inl rfl | exact Or.inr rfl)) pgs_nil))))
  (pss_one (ps_ret (pe_cmpR op_eq (pe_op op_mul (pe_callB (cr_sumT (K := K) rfl rfl) (by rfl) B.b_sum (by decide +kernel) (pa_cons (pe_ix (ix_tupK (K := K) rfl) (pv 2) pe_int (fun _ _ => rfl)) pa_nil)) (pv 6)) (pe_op op_mul (pv 5) (pe_callB (c_lenK (K := K) rfl) (by rfl) B.b_len PySem.boot_len (pa_cons (pe_ix (ix_tupK (K := K) rfl) (pv 2) pe_int (fun _ _ => rfl)) pa_nil))) (nomark _)))))))))), ?_⟩
    rcases h with ⟨p, g, s, ha, o, hv, q⟩ | ⟨nm, hb, q⟩
    rotate_left 1
    · walk_at "go"
      exact ⟨v, u, rfl, .inr ⟨nm, hb, fun H1 o1 => q H1 o1⟩⟩
    walk_at "go"
    refine ⟨v, u, rfl, .inl ⟨p, g, s, ha, fun H1 o1 => ?_⟩⟩
    obtain ⟨rfl, rfl, hp, G, hs⟩ := ha
    have it := G.isTop hs
    have mok := bestM_ok G it.lt it.cl
    have n1 := G.n1
    have hp1 := o1.seqT hp
    walk_at "go"
    have no : o = none → ∀ H', Off [] H H' → Q (.bl false) H' := fun e H' oo => q false H' ⟨(fun z => by cases z), fun ⟨a, n, e2, _⟩ => by rw [e] at e2; cases e2⟩ oo
    rcases hv H1 o1 with ⟨zs, cs, ⟨⟨t, p1, p2, rfl, ht, h1, h2⟩, l1, l2, l3⟩, eo⟩ | ⟨hbad, rfl⟩
    rotate_left 1
    · rcases hbad with ⟨t, x1, x2, rfl, ht, c1, c2, hbad⟩ | ⟨t, xs, rfl, ht, hne⟩ | ⟨k, hk, nk⟩
      · refine ⟨.ref t, _, _, rfl, .inl ⟨t, _, rfl, ht, rfl⟩, ?_⟩
        walk_at "go"
        have part : ∀ {y : V} {least : Int}, CatA K H1 y → ∃ b : Bool, ((∃ p xs, y = .ref p ∧ SqT K H1 p xs ∧ xs.all flB = true ∧ xs.length ≤ 1000 ∧ b = catB least xs) ∨ (∃ k, KdV K H1 y k ∧ k ≠ .tup ∧ b = false)) ∧ (b = true → ∃ p xs, y = .ref p ∧ SqT K H1 p xs ∧ catB least xs = true) := fun {y least} hy => by
          rcases hy with ⟨p, xs, rfl, e1, e2, e3⟩ | ⟨k, e1, e2⟩
          · exact ⟨_, .inl ⟨p, xs, rfl, e1, e2, e3, rfl⟩, fun z => ⟨p, xs, rfl, e1, z⟩⟩
          · exact ⟨false, .inr ⟨k, e1, e2, rfl⟩, fun z => by cases z⟩
        refine br_NT (show ((2 : Nat) : Int) = 2 from rfl) ?_
        walk_at "go"
        have bad : ∀ {H2 : Hp} {y : V} {least : Int}, CatN K H2 y least → ((∃ p xs, y = .ref p ∧ SqT K H2 p xs ∧ xs.all flB = true ∧ xs.length ≤ 1000 ∧ false = catB least xs) ∨ (∃ k, KdV K H2 y k ∧ k ≠ .tup ∧ false = false)) := fun {H2 y least} h => by
          rcases h with ⟨p, xs, rfl, e1, e2, e3, e4⟩ | ⟨k, e1, e2⟩
          · exact .inl ⟨p, xs, rfl, e1, e2, e3, e4.symm⟩
          · exact .inr ⟨k, e1, e2, rfl⟩
        rcases hbad with hbad | hbad
        · refine ⟨_, _, false, rfl, bad hbad, fun H2 o2 => ?_⟩
          walk_at "go"
          exact no rfl H2 (o1.trans o2)
        obtain ⟨b1, hb1, _⟩ := part (least := 0) c1
        refine ⟨_, _, b1, rfl, hb1, fun H2 o2 => ?_⟩
        have ht2 := o2.seqT ht
        cases b1 with
        | false =>
          walk_at "go"
          exact no rfl H2 (o1.trans o2)
        | true =>
          have hbad2 : CatN K H2 x2 1 := by
            rcases hbad with ⟨p, xs, rfl, e1, e2⟩ | ⟨k, e1, e2⟩
            · exact .inl ⟨p, xs, rfl, o2.seqT e1, e2⟩
            · exact .inr ⟨k, e1.offN o2, e2⟩
          walk_at "go"
          refine ⟨_, _, false, rfl, bad hbad2, fun H3 o3 => ?_⟩
          walk_at "go"
          exact no rfl H3 ((o1.trans o2).trans o3)
      · refine ⟨.ref t, _, _, rfl, .inl ⟨t, _, rfl, ht, rfl⟩, ?_⟩
        walk_at "go"
        refine br_nd (fun c1 => ?_) (fun c1 => absurd c1 (by omega))
        walk_at "go"
        exact no rfl H1 o1
      · refine ⟨x, _, _, rfl, .inr ⟨k, hk, nk, rfl⟩, ?_⟩
        walk_at "go"
        exact no rfl H1 o1
    refine ⟨.ref t, _, _, rfl, .inl ⟨t, _, rfl, ht, rfl⟩, ?_⟩
    walk_at "go"
    refine br_NT (show ((2 : Nat) : Int) = 2 from rfl) ?_
    walk_at "go"
    refine ⟨_, _, _, rfl, .inl ⟨p1, _, rfl, h1, flB_gV zs, by rw [gV_len]; omega, rfl⟩, fun H2 o2 => ?_⟩
    rw [catB_gV (by omega) l1]
    have ht2 := o2.seqT ht
    walk_at "go"
    refine ⟨_, _, _, rfl, .inl ⟨p2, _, rfl, o2.seqT h2, flB_gV cs, by rw [gV_len]; omega, rfl⟩, fun H3 o3 => ?_⟩
    rw [catB_gV (by omega) l3]
    have ht3 := o3.seqT ht2
    have o13 := (o1.trans o2).trans o3
    have hp3 := o13.seqT hp
    have h13 := o3.seqT (o2.seqT h1)
    have h23 := o3.seqT (o2.seqT h2)
    walk_at "go"
    refine ⟨p, g, s, p1, zs, rfl, hp3, G, hs, h13, fun ok1 => ?_, fun nok1 => ?_⟩
    rotate_left 1
    · have en : o = none := by
        rw [eo]
        unfold fishO
        exact if_neg fun z => nok1 z.1
      walk_at "go"
      refine ⟨rfl, ?_⟩
      walk_at "go"
      refine ⟨rfl, ?_⟩
      walk_at "go"
      exact no en H3 o13
    have hr1 := G.run_lt zs hs
    walk_at "go"
    refine ⟨rfl, ?_⟩
    walk_at "go"
    refine br_F (fun z : V.int _ = V.non => by cases z) ?_
    walk_at "go"
    refine ⟨p, g, _, p2, cs, rfl, hp3, G, hr1, h23, fun ok2 => ?_, fun nok2 => ?_⟩
    rotate_left 1
    · have en : o = none := by
        rw [eo]
        unfold fishO
        exact if_neg fun z => nok2 z.2.1
      walk_at "go"
      refine ⟨rfl, ?_⟩
      walk_at "go"
      exact no en H3 o13
    walk_at "go"
    refine ⟨rfl, ?_⟩
    walk_at "go"
    refine br_F (fun z : V.int _ = V.non => by cases z) ?_
    walk_at "go"
    refine br_d (fun c1 => ?_) (fun c1 => ?_)
    · have en : o = none := by
        rw [eo]
        unfold fishO
        exact if_neg fun z => by have := z.2.2; omega
      walk_at "go"
      exact no en H3 o13
    have en : o = some (sumN cs, (cs.length : Int)) := by
      rw [eo]
      unfold fishO
      exact if_pos ⟨ok1, ok2, by omega⟩
    walk_at "go"
    refine ⟨p, g, s, rfl, hp3, G, hs, ?_⟩
    walk_at "go"
    refine ⟨p, g, _, rfl, hp3, G, it.lt, it.cl, fun r H4 e4 o4 => ?_⟩
    have d0 := mok.d0
    have d1 := mok.d1
    have tl := it.lt
    generalize (bestM g (topOf g s)).1 = N at *
    generalize (bestM g (topOf g s)).2 = D0 at *
    have ht4 := o4.seqT ht3
    have h24 := o4.seqT h23
    have hcs := okR_all G cs hr1 ok2
    walk_at "go"
    refine ⟨p2, gI cs, rfl, h24, fun n hn => ?_, by unfold gI; rw [List.length_map]; omega, ?_⟩
    · obtain ⟨c, hc, rfl⟩ := List.mem_map.mp hn
      have := hcs c hc
      omega
    rw [sumN_gI]
    have ecl : (gV cs).length = cs.length := gV_len cs
    walk_at "go"
    rw [ecl]
    refine q _ H4 ?_ (o13.trans o4)
    rw [decide_eq_true_eq]
    exact ⟨fun e => ⟨_, _, en, e⟩, fun ⟨a, n, e1, e2⟩ => by rw [en] at e1; cases e1; exact e2⟩
theorem ok_is_fishing (T : Txt P w K mg) : DefOk P w K mg base "is_fishing" 5 ["growth", "start", "value"] (spIsFish K) := (okL_is_fishing T).ok
end
end SH
end

section
/-! #### the walk's words -/
local macro_rules | `(tactic| walk_at "ne0") => `(tactic| first
  | assumption
  | (refine Ne.symm ?_; assumption))
local macro_rules | `(tactic| walk_at "ne") => `(tactic| first
  | assumption
  | (refine Ne.symm ?_; assumption)
  | (refine' L2.ne_of_none ?gx (by assumption); (case gx => walk_at "hp"))
  | (refine' Ne.symm (L2.ne_of_none ?gx (by assumption)); (case gx => walk_at "hp")))
local macro_rules | `(tactic| walk_at "hp") => `(tactic| first
  | assumption
  | exact L2.upd_same
  | (refine' SH.upd_new ?gh (by assumption); (case gh => walk_at "hp"))
  | (refine' (L2.upd_ne ?gn).trans ?gh; (case gn => walk_at "ne0"); (case gh => walk_at "hp"))
  | (refine' SH.Off.at (by assumption) ?gn ?gh; (case gn => walk_at "nin"); (case gh => walk_at "hp")))
local macro_rules | `(tactic| walk_at "nin") => `(tactic| first
  | exact SH.nin_nil
  | (refine SH.nin_cons ?_ ?_; (· walk_at "ne0"); (· walk_at "nin")))
local macro_rules | `(tactic| walk_at "sq") => `(tactic| first
  | assumption
  | (apply L2.SqL.of; (· walk_at "hp"))
  | (apply L2.SqT.of; (· walk_at "hp"))
  | (refine' SH.seqT_new ?gx (by assumption); (case gx => walk_at "sq"))
  | (refine' SH.seqL_new ?gx (by assumption); (case gx => walk_at "sq"))
  | (refine' SH.Off.seqT (by assumption) ?gx; (case gx => walk_at "sq"))
  | (refine' SH.Off.seqL (by assumption) ?gy ?gx; (case gx => walk_at "sq"); (case gy => walk_at "nin")))
local macro_rules | `(tactic| walk_at "kd") => `(tactic| first
  | assumption | exact SH.KdV.int _ | exact SH.KdV.bl _ | exact SH.KdV.str _ | exact SH.KdV.non
  | (apply SH.KdV.tup; (· walk_at "sq")) | (apply SH.KdV.lst; (· walk_at "sq")))
/-- a way that cannot be -/
local macro_rules | `(tactic| walk_at "no") => `(tactic| (exfalso; first | assumption | omega | contradiction | (simp_all; done)))
/-- one step -/
local macro_rules | `(tactic| walk_at "g1") => `(tactic| with_reducible first
  | refine SH.g_var (by with_unfolding_all rfl) ?_ | refine SH.g_c ?_ | refine SH.g_op ?_ | refine SH.g_un ?_ | refine SH.g_I0 ?_ | refine SH.g_U ?_
  | refine SH.g_eqI ?_ | refine SH.g_neI ?_ | refine SH.g_eqS ?_ | refine SH.g_neS ?_
  | refine SH.g_test ?_ | refine SH.g_B ?_ | refine SH.g_isB ?_ | refine SH.g_and ?_ | refine SH.g_or ?_ | refine SH.g_not ?_ | refine SH.g_andV ?_ | refine SH.g_orV ?_ | refine SH.g_notV ?_ | refine SH.g_ifE ?_ | refine SH.g_chain ?_
  | refine SH.g_nil ?_ | refine SH.g_cons ?_ | refine SH.g_tup ?_ | refine SH.g_lst ?_ | refine SH.g_call ?_ | refine SH.g_fld ?_ | refine SH.g_meth ?_ | refine SH.g_make ?_ | refine SH.g_cb ?_ | refine SH.g_bm ?_
  | refine SH.g_seq ?_ | refine SH.g_asg ?_ | refine SH.g_name ?_ | refine SH.g_drop ?_ | refine SH.g_ret ?_ | refine SH.g_retN ?_ | refine SH.g_next ?_ | refine SH.g_brk ?_ | refine SH.g_cnt ?_ | refine SH.g_ifs ?_ | refine SH.g_par ?_ | refine SH.g_par2 ?_ | refine SH.g_fldS ?_ | refine SH.g_raise ?_ | refine SH.g_rs ?_
  | refine SH.g_sub ?_ | refine SH.g_yes ?_ | refine SH.g_sl ?_ | refine SH.g_noPart ?_ | refine SH.g_part ?_ | refine SH.g_intO ?_ | refine SH.g_dget ?_ | refine SH.g_dput ?_ | refine SH.g_forR ?_ | refine SH.g_forL ?_ | refine SH.g_forT ?_ | refine SH.g_lcR ?_ | refine SH.g_lcL ?_ | refine SH.g_lcT ?_ | refine SH.g_gcons ?_ | refine SH.g_gnil ?_
  | refine SH.br_t ?_ | refine SH.br_f ?_
  | refine SH.g_int ?_ | refine SH.g_abs ?_ | refine SH.g_max2 ?_ | refine SH.g_min2 ?_)
local macro_rules | `(tactic| walk_at "g2") => `(tactic| first
  | walk_at "g1"
  | ((with_reducible refine' SH.g_isiInt ?ga ?gz); (case ga => walk_at "kd"))
  | ((with_reducible refine' SH.g_isiBool ?ga ?gz); (case ga => walk_at "kd"))
  | ((with_reducible refine' SH.g_isiStr ?ga ?gz); (case ga => walk_at "kd"))
  | ((with_reducible refine' SH.g_isiTup ?ga ?gz); (case ga => walk_at "kd"))
  | ((with_reducible refine' SH.g_ixT ?ga ?gb ?gz); (case ga => walk_at "sq"); (case gb => rfl))
  | ((with_reducible refine' SH.g_ixL ?ga ?gb ?gz); (case ga => walk_at "sq"); (case gb => first | rfl | (apply SH.atI_refs; assumption)))
  | ((with_reducible refine SH.br_F ?_ ?_); (· decide +kernel)) | ((with_reducible refine SH.br_T ?_ ?_); (· decide +kernel)) | ((with_reducible refine SH.br_NF ?_ ?_); (· decide +kernel)) | ((with_reducible refine SH.br_NT ?_ ?_); (· decide +kernel))
  | ((with_reducible refine' SH.g_gtup ?ga ?gb ?gz); (case ga => walk_at "sq"); (case gb => rfl))
  | ((with_reducible refine' SH.g_lenT ?ga ?gz); (case ga => walk_at "sq"))
  | ((with_reducible refine' SH.g_lenL ?ga ?gz); (case ga => walk_at "sq"))
  | ((with_reducible refine SH.g_mkT (SH.sz rfl) ?_); intro _ _)
  | ((with_reducible refine SH.g_mkL (SH.sz rfl) ?_); intro _ _)
  | ((with_reducible refine SH.g_dnew ?_); intro _ _)
  | ((with_reducible refine' SH.g_tupL ?ga ?gz); (case ga => walk_at "sq"); intro _ _)
  | ((with_reducible refine' SH.g_lstL ?ga ?gz); (case ga => walk_at "sq"); intro _ _)
  | ((with_reducible refine' SH.g_lstT ?ga ?gz); (case ga => walk_at "sq"); intro _ _)
  | ((with_reducible refine' SH.g_dgR ?ga ?gb ?gz); (case ga => walk_at "hp"); (case gb => walk_at "dv"))
  | ((with_reducible refine' SH.g_fldR ?ga ?gb ?gc ?gd ?gz); (case ga => walk_at "hp"); (case gb => walk_at "cl"); (case gc => walk_at "na"); (case gd => walk_at "fv"))
  | ((with_reducible refine' SH.g_insR ?ga ?gb ?gz); (case ga => walk_at "hp"); (case gb => walk_at "fn"))
  | ((with_reducible refine' SH.g_setL ?ga ?gb ?gz); (case ga => walk_at "hp"); (case gb => rfl))
  | ((with_reducible refine SH.g_I ?_ ?_); (· walk_at "ci"))
  | ((with_reducible refine' SH.g_slL ?ga ?gz); (case ga => walk_at "sq"); intro _ _)
  | ((with_reducible refine' SH.g_cat ?ga ?gb ?gc ?gz); (case ga => walk_at "hp"); (case gb => walk_at "hp"); (case gc => walk_at "ls"); intro _ _))
/-- the side conditions of numbers: a divisor, a factor -/
local macro_rules | `(tactic| walk_at "ci") => `(tactic| first
  | (show _ ≠ _; omega) | (show _ < _; omega) | (constructor <;> omega) | (refine Or.inr ⟨?_, ?_⟩ <;> (show _ < _; omega)) | (refine Or.inl ⟨?_, ?_⟩ <;> (show _ < _; omega)) | (refine ⟨?_, ?_, ?_⟩ <;> decide))
local macro_rules | `(tactic| walk_at "ls") => `(tactic| first | (show _ ≤ _; exact Nat.le_trans (by assumption) (by decide)) | (show _ ≤ _; exact Nat.le_trans (by simp; omega) (by decide : 1000 ≤ sizeLine)))
local macro_rules | `(tactic| walk_at "dv") => `(tactic| rfl)
local macro_rules | `(tactic| walk_at "fv") => `(tactic| rfl)
local macro_rules | `(tactic| walk_at "fn") => `(tactic| rfl)
local macro_rules | `(tactic| walk_at "cl") => `(tactic| assumption)
local macro_rules | `(tactic| walk_at "na") => `(tactic| assumption)
local macro_rules | `(tactic| walk_at "go") => `(tactic| repeat walk_at "g2")
/-- a way is split -/
local macro_rules | `(tactic| walk_at "br") => `(tactic| with_reducible first
  | refine SH.br_d (fun _ => ?_) (fun _ => ?_) | refine SH.br_nd (fun _ => ?_) (fun _ => ?_) | refine SH.br_b (fun _ => ?_) (fun _ => ?_))
/-- all ways -/
local macro_rules | `(tactic| walk_at "all") => `(tactic| repeat' first | walk_at "g2" | (walk_at "br" <;> try (walk_at "no")))
/-- a truth value is the other -/
local macro_rules | `(tactic| walk_at "bq") => `(tactic| first | rfl | (simp_all; done) | (simp_all; omega) | (simp only [decide_eq_true_eq, decide_eq_false_iff_not, Bool.and_eq_true, Bool.or_eq_true] at *; omega))
/-- what was tracked is as it was -/
local macro_rules | `(tactic| walk_at "of") => `(tactic| first
  | assumption
  | exact SH.Off.refl _ _
  | (refine' SH.Off.new2 ?gx (by assumption); (case gx => walk_at "of"))
  | (refine' SH.Off.mut ?gx (by assumption); (case gx => walk_at "of"))
  | (refine' SH.Off.trans' ?gx (by assumption) ?gy; (case gy => (intro _ h; (first | exact h | (simp at h; done) | (simp at h ⊢; simp [h]; done)))); (case gx => walk_at "of")))
namespace SH
open PySem PySem.Spec PyProof.Rows L2 LamX
theorem KdV.offTab {K : PySem.W.Frag} {H H' : Hp} {P : Addr} {ps : Array Value} {v : V} {kd : Kd} (hk : KdV K H v kd) (hP : H P = some (.tbl ps)) (o : Off [P] H H') : KdV K H' v kd := by
  cases hk with
  | non => exact .non
  | bl b => exact .bl b
  | int i => exact .int i
  | str z => exact .str z
  | @lst a xs h =>
    refine .lst (xs := xs) ?_
    rcases h with (h | ⟨o', h⟩) | h
    · exact .inl (.inl (o.at (by simpa using fun z : a = P => by rw [z, hP] at h; cases h) h))
    · exact .inl (.inr ⟨o', o.frzs _ _ _ h⟩)
    · exact .inr h
  | @tup a xs h => exact .tup (o.seqT h)
  | @dct a kvs h => exact .dct (o.at (by simpa using fun z : a = P => by rw [z, hP] at h; cases h) h)
theorem KdV.offDice {K : PySem.W.Frag} {H H' : Hp} {d : Addr} {c c' : Int} {v : V} {kd : Kd} (hk : KdV K H v kd) (h1 : DiceAt H d c) (h2 : DiceAt H' d c') (o : Off [d] H H') : KdV K H' v kd := by
  obtain ⟨_, _, _, e1, _⟩ := h1
  obtain ⟨_, _, _, e2, _⟩ := h2
  cases hk with
  | non => exact .non
  | bl b => exact .bl b
  | int i => exact .int i
  | str z => exact .str z
  | @lst a xs h =>
    rcases h with (h | ⟨o', h⟩) | h
    · by_cases z : a = d
      · rw [z]
        exact .lst (.of e2)
      · exact .lst (.inl (.inl (o.at (by simpa using z) h)))
    · exact .lst (.inl (.inr ⟨o', o.frzs _ _ _ h⟩))
    · exact .lst (.inr h)
  | @tup a xs h => exact .tup (o.seqT h)
  | @dct a kvs h => exact .dct (o.at (by simpa using fun z : a = d => by rw [z, e1] at h; cases h) h)
theorem DiceAt.noext {H : Hp} {a : Addr} {c : Int} (h : DiceAt H a c) : NoExt H [a] := fun b hb φ e => by
  obtain ⟨_, _, _, e2, _⟩ := h
  rw [List.mem_singleton.mp hb, e2] at e
  cases e
theorem DiceAt.neP {H : Hp} {a P : Addr} {c : Int} {q : Str} (h : DiceAt H a c) (t : TabS H P q) : a ≠ P := fun z => by
  obtain ⟨_, _, _, e1, _⟩ := h
  obtain ⟨_, e2, _⟩ := t
  rw [z, e2] at e1
  cases e1
def qR : Str := "_law_right.<locals>.<lambda>"
/-- what stands through the law's def: the dice, the table of code objects -/
structure RtC (H0 H : Hp) (a P0 : Addr) (c : Int) : Prop where
  dice : DiceAt H a c
  tab : TabS H P0 qR
  off : Off [a, P0] H0 H
theorem RtC.nil {H0 H H' : Hp} {a P0 : Addr} {c : Int} (r : RtC H0 H a P0 c) (o : Off [] H H') : RtC H0 H' a P0 c :=
  ⟨r.dice.off o nin_nil, SH.TabS.off r.tab o nin_nil NoExt.nil, r.off.trans (o.mono fun _ h => absurd h nin_nil)⟩
theorem RtC.dc {H0 H H' : Hp} {a P0 : Addr} {c c' : Int} (r : RtC H0 H a P0 c) (o : Off [a] H H') (d : DiceAt H' a c') : RtC H0 H' a P0 c' :=
  ⟨d, SH.TabS.off r.tab o (by simpa using (DiceAt.neP r.dice r.tab).symm) r.dice.noext, r.off.trans (o.mono (by simp))⟩
theorem RtC.tb {H0 H H' : Hp} {a P0 : Addr} {c : Int} (r : RtC H0 H a P0 c) (o : Off [P0] H H') (t : TabS H' P0 qR) : RtC H0 H' a P0 c :=
  ⟨r.dice.off o (by simpa using DiceAt.neP r.dice r.tab), t, r.off.trans (o.mono (by simp))⟩
theorem RtC.mu {H0 H H' : Hp} {a P0 : Addr} {c : Int} {L : Addr} {xs : List V} (r : RtC H0 H a P0 c) (o : Off [L] H H') (e : H L = some (.lst xs)) (h0 : H0 L = none) (na : a ≠ L) : RtC H0 H' a P0 c :=
  ⟨r.dice.off o (by simpa using na), SH.TabS.off r.tab o (fun z => by
    obtain ⟨_, e2, _⟩ := r.tab
    rw [List.mem_singleton.mp z, e] at e2; cases e2) (fun b hb φ z => by rw [List.mem_singleton.mp hb, e] at z; cases z), r.off.muts o fun u hu => by rw [List.mem_singleton.mp hu]; exact .inr h0⟩
theorem RtC.mono {H0 H : Hp} {a P0 : Addr} {c c' : Int} (r : RtC H0 H a P0 c) (h : c ≤ c') : RtC H0 H a P0 c' := ⟨r.dice.mono h, r.tab, r.off⟩
def refE (C : Addr) (f : Str) (Q : VK) : XK := fun cls d H' => ∃ dd v, cls = .ref C ∧ d = some dd ∧ H' dd = some (.xd [(f, v)]) ∧ Q v H'
section
variable {K : PySem.W.Frag} {σ : L2.St} {H : Hp} {Q : VK} {P0 C : Addr} {f qq : Str}
theorem g_lamR {t : XK → TE} (h1 : TabS H P0 qq) (q : ∀ H1, Off [P0] H H1 → TabS H1 P0 qq → t (refE C f Q) σ H1 fun _ H' => Q (.str "") H') : tLam1 P0 qq (TTref C f) t σ H Q := ⟨h1, fun H1 o1 t1 => q H1 o1 t1⟩
theorem g_refE {v : V} (q : ∀ d H', H d = none → Off [] H H' → Q v H') : RaiseW C f v H (refE C f Q) := fun d hd => ⟨d, v, rfl, rfl, upd_same, q d _ hd (.new hd)⟩
end
end SH
end

section
/-! #### the walk's words -/
local macro_rules | `(tactic| walk_at "ne0") => `(tactic| first
  | assumption
  | (refine Ne.symm ?_; assumption))
local macro_rules | `(tactic| walk_at "ne") => `(tactic| first
  | assumption
  | (refine Ne.symm ?_; assumption)
  | (refine' L2.ne_of_none ?gx (by assumption); (case gx => walk_at "hp"))
  | (refine' Ne.symm (L2.ne_of_none ?gx (by assumption)); (case gx => walk_at "hp")))
local macro_rules | `(tactic| walk_at "hp") => `(tactic| first
  | assumption
  | exact L2.upd_same
  | (refine' SH.upd_new ?gh (by assumption); (case gh => walk_at "hp"))
  | (refine' (L2.upd_ne ?gn).trans ?gh; (case gn => walk_at "ne0"); (case gh => walk_at "hp"))
  | (refine' SH.Off.at (by assumption) ?gn ?gh; (case gn => walk_at "nin"); (case gh => walk_at "hp")))
local macro_rules | `(tactic| walk_at "nin") => `(tactic| first
  | exact SH.nin_nil
  | (refine SH.nin_cons ?_ ?_; (· walk_at "ne0"); (· walk_at "nin")))
local macro_rules | `(tactic| walk_at "sq") => `(tactic| first
  | assumption
  | (apply L2.SqL.of; (· walk_at "hp"))
  | (apply L2.SqT.of; (· walk_at "hp"))
  | (refine' SH.seqT_new ?gx (by assumption); (case gx => walk_at "sq"))
  | (refine' SH.seqL_new ?gx (by assumption); (case gx => walk_at "sq"))
  | (refine' SH.Off.seqT (by assumption) ?gx; (case gx => walk_at "sq"))
  | (refine' SH.Off.seqL (by assumption) ?gy ?gx; (case gx => walk_at "sq"); (case gy => walk_at "nin")))
local macro_rules | `(tactic| walk_at "kd") => `(tactic| first
  | assumption | exact SH.KdV.int _ | exact SH.KdV.bl _ | exact SH.KdV.str _ | exact SH.KdV.non
  | (apply SH.KdV.tup; (· walk_at "sq")) | (apply SH.KdV.lst; (· walk_at "sq")))
/-- a way that cannot be -/
local macro_rules | `(tactic| walk_at "no") => `(tactic| (exfalso; first | assumption | omega | contradiction | (simp_all; done)))
/-- one step -/
local macro_rules | `(tactic| walk_at "g1") => `(tactic| with_reducible first
  | refine SH.g_var (by with_unfolding_all rfl) ?_ | refine SH.g_c ?_ | refine SH.g_op ?_ | refine SH.g_un ?_ | refine SH.g_I0 ?_ | refine SH.g_U ?_
  | refine SH.g_eqI ?_ | refine SH.g_neI ?_ | refine SH.g_eqS ?_ | refine SH.g_neS ?_
  | refine SH.g_test ?_ | refine SH.g_B ?_ | refine SH.g_isB ?_ | refine SH.g_and ?_ | refine SH.g_or ?_ | refine SH.g_not ?_ | refine SH.g_andV ?_ | refine SH.g_orV ?_ | refine SH.g_notV ?_ | refine SH.g_ifE ?_ | refine SH.g_chain ?_
  | refine SH.g_nil ?_ | refine SH.g_cons ?_ | refine SH.g_tup ?_ | refine SH.g_lst ?_ | refine SH.g_call ?_ | refine SH.g_fld ?_ | refine SH.g_meth ?_ | refine SH.g_make ?_ | refine SH.g_cb ?_ | refine SH.g_bm ?_
  | refine SH.g_seq ?_ | refine SH.g_asg ?_ | refine SH.g_name ?_ | refine SH.g_drop ?_ | refine SH.g_ret ?_ | refine SH.g_retN ?_ | refine SH.g_next ?_ | refine SH.g_brk ?_ | refine SH.g_cnt ?_ | refine SH.g_ifs ?_ | refine SH.g_par ?_ | refine SH.g_par2 ?_ | refine SH.g_fldS ?_ | refine SH.g_raise ?_ | refine SH.g_rs ?_
  | refine SH.g_sub ?_ | refine SH.g_yes ?_ | refine SH.g_sl ?_ | refine SH.g_noPart ?_ | refine SH.g_part ?_ | refine SH.g_intO ?_ | refine SH.g_dget ?_ | refine SH.g_dput ?_ | refine SH.g_forR ?_ | refine SH.g_forL ?_ | refine SH.g_forT ?_ | refine SH.g_lcR ?_ | refine SH.g_lcL ?_ | refine SH.g_lcT ?_ | refine SH.g_gcons ?_ | refine SH.g_gnil ?_
  | refine SH.br_t ?_ | refine SH.br_f ?_
  | refine SH.g_int ?_ | refine SH.g_abs ?_ | refine SH.g_max2 ?_ | refine SH.g_min2 ?_)
local macro_rules | `(tactic| walk_at "g2") => `(tactic| first
  | walk_at "g1"
  | ((with_reducible refine' SH.g_isiInt ?ga ?gz); (case ga => walk_at "kd"))
  | ((with_reducible refine' SH.g_isiBool ?ga ?gz); (case ga => walk_at "kd"))
  | ((with_reducible refine' SH.g_isiStr ?ga ?gz); (case ga => walk_at "kd"))
  | ((with_reducible refine' SH.g_isiTup ?ga ?gz); (case ga => walk_at "kd"))
  | ((with_reducible refine' SH.g_ixT ?ga ?gb ?gz); (case ga => walk_at "sq"); (case gb => rfl))
  | ((with_reducible refine' SH.g_ixL ?ga ?gb ?gz); (case ga => walk_at "sq"); (case gb => first | rfl | (apply SH.atI_refs; assumption)))
  | ((with_reducible refine SH.br_F ?_ ?_); (· decide +kernel)) | ((with_reducible refine SH.br_T ?_ ?_); (· decide +kernel)) | ((with_reducible refine SH.br_NF ?_ ?_); (· decide +kernel)) | ((with_reducible refine SH.br_NT ?_ ?_); (· decide +kernel))
  | ((with_reducible refine' SH.g_gtup ?ga ?gb ?gz); (case ga => walk_at "sq"); (case gb => rfl))
  | ((with_reducible refine' SH.g_lenT ?ga ?gz); (case ga => walk_at "sq"))
  | ((with_reducible refine' SH.g_lenL ?ga ?gz); (case ga => walk_at "sq"))
  | ((with_reducible refine SH.g_mkT (SH.sz rfl) ?_); intro _ _)
  | ((with_reducible refine SH.g_mkL (SH.sz rfl) ?_); intro _ _)
  | ((with_reducible refine SH.g_dnew ?_); intro _ _)
  | ((with_reducible refine' SH.g_tupL ?ga ?gz); (case ga => walk_at "sq"); intro _ _)
  | ((with_reducible refine' SH.g_lstL ?ga ?gz); (case ga => walk_at "sq"); intro _ _)
  | ((with_reducible refine' SH.g_lstT ?ga ?gz); (case ga => walk_at "sq"); intro _ _)
  | ((with_reducible refine' SH.g_dgR ?ga ?gb ?gz); (case ga => walk_at "hp"); (case gb => walk_at "dv"))
  | ((with_reducible refine' SH.g_fldR ?ga ?gb ?gc ?gd ?gz); (case ga => walk_at "hp"); (case gb => walk_at "cl"); (case gc => walk_at "na"); (case gd => walk_at "fv"))
  | ((with_reducible refine' SH.g_insR ?ga ?gb ?gz); (case ga => walk_at "hp"); (case gb => walk_at "fn"))
  | ((with_reducible refine' SH.g_setL ?ga ?gb ?gz); (case ga => walk_at "hp"); (case gb => rfl))
  | ((with_reducible refine SH.g_I ?_ ?_); (· walk_at "ci"))
  | ((with_reducible refine' SH.g_slL ?ga ?gz); (case ga => walk_at "sq"); intro _ _)
  | ((with_reducible refine' SH.g_cat ?ga ?gb ?gc ?gz); (case ga => walk_at "hp"); (case gb => walk_at "hp"); (case gc => walk_at "ls"); intro _ _))
/-- the side conditions of numbers: a divisor, a factor -/
local macro_rules | `(tactic| walk_at "ci") => `(tactic| first
  | (show _ ≠ _; omega) | (show _ < _; omega) | (constructor <;> omega) | (refine Or.inr ⟨?_, ?_⟩ <;> (show _ < _; omega)) | (refine Or.inl ⟨?_, ?_⟩ <;> (show _ < _; omega)) | (refine ⟨?_, ?_, ?_⟩ <;> decide))
local macro_rules | `(tactic| walk_at "ls") => `(tactic| first | (show _ ≤ _; exact Nat.le_trans (by assumption) (by decide)) | (show _ ≤ _; exact Nat.le_trans (by simp; omega) (by decide : 1000 ≤ sizeLine)))
local macro_rules | `(tactic| walk_at "dv") => `(tactic| rfl)
local macro_rules | `(tactic| walk_at "fv") => `(tactic| rfl)
local macro_rules | `(tactic| walk_at "fn") => `(tactic| rfl)
local macro_rules | `(tactic| walk_at "cl") => `(tactic| assumption)
local macro_rules | `(tactic| walk_at "na") => `(tactic| assumption)
local macro_rules | `(tactic| walk_at "go") => `(tactic| repeat walk_at "g2")
/-- a way is split -/
local macro_rules | `(tactic| walk_at "br") => `(tactic| with_reducible first
  | refine SH.br_d (fun _ => ?_) (fun _ => ?_) | refine SH.br_nd (fun _ => ?_) (fun _ => ?_) | refine SH.br_b (fun _ => ?_) (fun _ => ?_))
/-- all ways -/
local macro_rules | `(tactic| walk_at "all") => `(tactic| repeat' first | walk_at "g2" | (walk_at "br" <;> try (walk_at "no")))
/-- a truth value is the other -/
local macro_rules | `(tactic| walk_at "bq") => `(tactic| first | rfl | (simp_all; done) | (simp_all; omega) | (simp only [decide_eq_true_eq, decide_eq_false_iff_not, Bool.and_eq_true, Bool.or_eq_true] at *; omega))
/-- what was tracked is as it was -/
local macro_rules | `(tactic| walk_at "of") => `(tactic| first
  | assumption
  | exact SH.Off.refl _ _
  | (refine' SH.Off.new2 ?gx (by assumption); (case gx => walk_at "of"))
  | (refine' SH.Off.mut ?gx (by assumption); (case gx => walk_at "of"))
  | (refine' SH.Off.trans' ?gx (by assumption) ?gy; (case gy => (intro _ h; (first | exact h | (simp at h; done) | (simp at h ⊢; simp [h]; done)))); (case gx => walk_at "of")))
/-- kinds; parts of tuples; stars -/
local macro_rules | `(tactic| walk_at "g2") => `(tactic| first
  | (with_reducible first | refine SH.br_ntt ?_ | refine SH.br_ntf ?_ | refine SH.br_k ?_ | refine SH.br_nk ?_ | refine SH.g_star ?_ | refine SH.g_forR2 ?_ | refine SH.g_lcZ ?_ | refine SH.g_enL ?_)
  | ((with_reducible refine' SH.g_slA ?ga ?gz); (case ga => walk_at "sq"); intro _ _ _ _)
  | ((with_reducible refine' SH.g_app' ?ga ?gb ?gz); (case ga => walk_at "hp"); (case gb => walk_at "lt"); intro _ _ _)
  | ((with_reducible refine' SH.g_bml ?ga ?gz); (case ga => walk_at "sq"))
  | ((with_reducible refine' SH.g_popF ?ga ?gz); (case ga => walk_at "hp"); intro _ _ _)
  | (with_reducible first | refine SH.g_pnil ?_ | refine SH.g_pcons ?_ | (refine SH.g_disp ?_; intro _ _))
  | ((with_reducible refine' SH.g_kw ?gz))
  | ((with_reducible refine SH.g_kwR rfl ?_)))
local macro_rules | `(tactic| walk_at "lt") => `(tactic| (rw [PySem.sizeLine_eq]; omega))
/-- the law's dice -/
local macro_rules | `(tactic| walk_at "dc") => `(tactic| first
  | assumption
  | (refine' SH.DiceAt.new ?gx (by assumption); (case gx => walk_at "dc"))
  | (refine' SH.DiceAt.off ?gx (by assumption) ?gy; (case gx => walk_at "dc"); (case gy => walk_at "nin")))
local macro_rules | `(tactic| walk_at "g2") => `(tactic| first
  | ((with_reducible refine' SH.g_roll ?ga ?gb ?gc ?gd ?gz); (case ga => walk_at "dc"); (case gb => omega); (case gc => omega); (case gd => omega); intro _ _ _ _ _ _))
namespace SH
open PySem PySem.Spec PyProof.Rows L2
/-- numbers in order are a growth -/
theorem gV_toNat : ∀ {ns : List Int}, (∀ n ∈ ns, 0 ≤ n) → gV (ns.map Int.toNat) = ns.map V.int
  | [], _ => rfl
  | n :: ns, h => by
    show V.int ((n.toNat : Nat) : Int) :: gV (ns.map Int.toNat) = V.int n :: ns.map V.int
    rw [gV_toNat fun x hx => h x (List.mem_cons_of_mem _ hx), Int.toNat_of_nonneg (h n (List.mem_cons_self ..))]
theorem grOk_of {ns : List Int} {m : Nat} (h1 : 1 ≤ m) (h30 : m ≤ 30) (hl : ns.length = m + 1) (hr : ∀ n ∈ ns, 0 ≤ n ∧ n ≤ (m : Int)) (hs : ns.Pairwise (· ≤ ·)) : ∃ g, ns.map V.int = gV g ∧ GrOk g := by
  have eAt : ∀ (i : Nat) (h : i < ns.length), gAt (ns.map Int.toNat) i = (ns[i]).toNat := fun i h => by
    unfold gAt
    rw [List.getD_eq_getElem?_getD, List.getElem?_map, List.getElem?_eq_getElem h]
    rfl
  refine ⟨ns.map Int.toNat, (gV_toNat fun n hn => (hr n hn).1).symm, ⟨by rw [List.length_map]; omega, by rw [List.length_map]; omega, fun l h => ?_, fun i j hij hj => ?_⟩⟩
  · rw [List.length_map] at h ⊢
    rw [eAt l h]
    have := hr _ (List.getElem_mem h)
    omega
  · rw [List.length_map] at hj
    rw [eAt i (by omega), eAt j hj]
    rcases Nat.eq_or_lt_of_le hij with rfl | hlt
    · exact Nat.le_refl _
    · have := List.pairwise_iff_getElem.mp hs i j (by omega) hj hlt
      omega
def spHGr (K : PySem.W.Frag) : Sp := fun vs H Q _ => ∃ a c, vs = [.ref a] ∧ DiceAt H a c ∧ c ≤ 100000000 ∧ ∀ t H' g, SqT K H' t (gV g) → GrOk g → DiceAt H' a (c + 50) → Off [a] H H' → Q (.ref t) H'
section
variable {P : Program} {w : World} {K : PySem.W.Frag} {mg : Str → Option Value} {base : Heap}
set_option maxHeartbeats 1000000 in
theorem ok_law_h_growth (T : Txt P w K mg) : DefOk P w K mg base "_law_h_growth" 3 ["dice"] (spHGr K) := by
  refine T.d_law_h_growth.ok sc_law_h_growth (fun _ _ _ _ _ _ us hl => match us, hl with | [_], _ => rfl) (fun vs H Q E h => ?_) (fun f cdv A outer s H vs Q E hr h => ?_)
  · obtain ⟨a, c, rfl, _⟩ := h
    rfl
  · obtain ⟨a, c, rfl, hd, hc, q⟩ := h
    have B := T.blt
    have hu := hu_of hr
    have G_law_pick := ok_law_pick (base := base) T
    have G_law_roll := ok_law_roll (base := base) T
    refine ⟨_, (pss_cons (ps_set (i := 1) sc_law_h_growth.nd rfl (by first | exact Or.inl rfl | exact Or.inr rfl) (pe_op op_add pe_int (pe_df G_law_pick (hr.mono (by decide)) (L2N.passes_call (L2N.takes_of rfl rfl rfl rfl) fun _ _ _ _ z => z) (pa_cons (pv 0) (pa_cons (pe_lst (pa_cons (pe_df G_law_roll (hr.mono (by decide)) (L2N.passes_call (L2N.takes_of rfl rfl rfl rfl) fun _ _ _ _ z => z) (pa_cons (pv 0) (pa_cons pe_int pa_nil))) (pa_cons (pe_df G_law_roll (hr.mono (by decide)) (L2N.passes_call (L2N.takes_of rfl rfl rfl rfl) fun _ _ _ _ z => z) (pa_cons (pv 0) (pa_cons pe_int pa_nil))) (pa_cons (pe_df G_law_roll (hr.mono (by decide)) (L2N.passes_call (L2N.takes_of rfl rfl rfl rfl) fun _ _ _ _ z => z) (pa_cons (pv 0) (pa_cons pe_int pa_nil))) pa_nil)))) pa_nil)))))
  (pss_cons (ps_asg (pe_tup (pa_cons (pe_df G_law_roll (hr.mono (by decide)) (L2N.passes_call (L2N.takes_of rfl rfl rfl rfl) fun _ _ _ _ z => z) (pa_cons (pv 0) (pa_cons pe_int pa_nil))) (pa_cons (pe_df G_law_pick (hr.mono (by decide)) (L2N.passes_call (L2N.takes_of rfl rfl rfl rfl) fun _ _ _ _ z => z) (pa_cons (pv 0) (pa_cons (pe_lst (pa_cons pe_int (pa_cons pe_int (pa_cons pe_int (pa_cons pe_int pa_nil))))) pa_nil))) pa_nil))) (pg_tupK (K := K) (n := 2) rfl rfl (pgs_cons (pg_name (i := 2) sc_law_h_growth.nd rfl (by first | exact Or.inl rfl | exact Or.inr rfl)) (pgs_cons (pg_name (i := 3) sc_law_h_growth.nd rfl (by first | exact Or.inl rfl | exact Or.inr rfl)) pgs_nil))))
  (pss_cons (ps_if (pt_cmpR op_eq (pv 2) pe_int (nomark _))
    (pss_one (ps_ret (pe_callTy (c_tupK (K := K) rfl) (by rfl) B.b_tuple (by decide +kernel) (pa_cons (pe_callB (cr_sortedK (K := K) rfl) (by rfl) B.b_sorted (by decide +kernel) (pa_cons (pe_lc (own := [("stock", 5)]) rfl sc_law_h_growth.nd (pi_range1 rfl B.b_range (pa_cons (pe_op op_add (pv 1) pe_int) pa_nil)) (blkOk_by (own := [("stock", 5)]) (N := ["dice", "most", "way", "by", "found", "stock"]) (sc := defScope s_law_h_growth) (by decide +kernel)) (fun _ _ _ _ _ => (pg_name (i := 5) sc_law_h_growth.nd rfl (by first | exact Or.inl rfl | exact Or.inr rfl))) (fun _ _ _ _ _ => pts_nil) (fun _ _ _ _ _ => (pe_df G_law_roll (hr.mono (by decide)) passN (pa_cons (pv 0) (pa_cons (pe_op op_add (pv 1) pe_int) pa_nil))))) pa_nil)) pa_nil))))
    pss_nil)
  (pss_cons (ps_if (pt_cmpR op_eq (pv 2) pe_int (nomark _))
    (pss_cons (ps_setLc (i := 4) (own := [("stock", 5)]) rfl sc_law_h_growth.nd rfl rfl (sw_true rfl rfl rfl (by decide +kernel)) (pi_range1 rfl B.b_range (pa_cons (pe_op op_add (pv 1) pe_int) pa_nil)) (blkOk_by (own := [("stock", 5)]) (N := ["dice", "most", "way", "by", "found", "stock"]) (sc := defScope s_law_h_growth) (by decide +kernel)) (fun _ _ _ _ _ => (pg_name (i := 5) sc_law_h_growth.nd rfl (by first | exact Or.inl rfl | exact Or.inr rfl))) (fun _ _ _ _ _ => pts_nil) (fun _ _ _ _ _ => (pe_callB (c_min2 rfl) (by rfl) B.b_min (by decide +kernel) (pa_cons (pv 1) (pa_cons (pe_op op_add (pv 5) (pe_op op_fdivN (pe_op op_mul (pe_op op_mul (pv 3) (pv 5)) (pe_op op_sub (pv 1) (pv 5))) (pe_op op_mul pe_int (pv 1)))) pa_nil)))))
  (pss_one (ps_ret (pe_callTy (c_tupK (K := K) rfl) (by rfl) B.b_tuple (by decide +kernel) (pa_cons (pe_callB (cr_sortedK (K := K) rfl) (by rfl) B.b_sorted (by decide +kernel) (pa_cons (pv 4) pa_nil)) pa_nil)))))
    pss_nil)
  (pss_one (ps_ret (pe_callTy (c_tupK (K := K) rfl) (by rfl) B.b_tuple (by decide +kernel) (pa_cons (pe_lc (own := [("stock", 5)]) rfl sc_law_h_growth.nd (pi_range1 rfl B.b_range (pa_cons (pe_op op_add (pv 1) pe_int) pa_nil)) (blkOk_by (own := [("stock", 5)]) (N := ["dice", "most", "way", "by", "found", "stock"]) (sc := defScope s_law_h_growth) (by decide +kernel)) (fun _ _ _ _ _ => (pg_name (i := 5) sc_law_h_growth.nd rfl (by first | exact Or.inl rfl | exact Or.inr rfl))) (fun _ _ _ _ _ => pts_nil) (fun _ _ _ _ _ => (pe_callB (c_min2 rfl) (by rfl) B.b_min (by decide +kernel) (pa_cons (pv 1) (pa_cons (pe_op op_fdivN (pe_op op_mul (pv 5) (pv 3)) pe_int) pa_nil))))) pa_nil)))))))), ?_⟩
    walk_at "go"
    rename_i r1 H1 r10 r11 d1 o1 r2 H2 r20 r21 d2 o2 r3 H3 r30 r31 d3 o3 pL hpL
    refine g_pick (ns := [r1, r2, r3]) 0 29 hpL d3 (by omega) (fun k hk => ?_) (by simp) (by simp) fun x H5 hk k0 k1 d5 o5 => ?_
    · simp only [List.mem_cons, List.not_mem_nil, or_false] at hk
      rcases hk with rfl | rfl | rfl <;> omega
    have o05 : Off [a] H H5 := ((o1.trans o2).trans o3).trans ((Off.new hpL).trans o5)
    obtain ⟨m, em, m1, m30⟩ : ∃ m : Nat, 1 + x = (m : Int) ∧ 1 ≤ m ∧ m ≤ 30 := ⟨(1 + x).toNat, by omega, by omega, by omega⟩
    walk_at "go"
    rw [em]
    walk_at "go"
    rename_i way H6 w0 w1 d6 o6 pW hpW
    refine g_pick (ns := [2, 3, 3, 4]) 2 4 hpW d6 (by omega) (fun k hk => ?_) (by simp) (by simp) fun y H7 hyk y0 y1 d7 o7 => ?_
    · simp only [List.mem_cons, List.not_mem_nil, or_false] at hk
      rcases hk with rfl | rfl | rfl | rfl <;> omega
    have o07 : Off [a] H H7 := (o05.trans o6).trans ((Off.new hpW).trans o7)
    clear hyk hk d1 d2 d3 d5 d6 o1 o2 o3 o5 o6 o7 o05
    walk_at "go"
    have em1 : ((m : Nat) : Int) + 1 = ((m + 1 : Nat) : Int) := by omega
    have fin : ∀ {ns : List Int} {H8 : Hp} {t : Addr}, ns.length = m + 1 → (∀ n ∈ ns, 0 ≤ n ∧ n ≤ (m : Int)) → ns.Pairwise (· ≤ ·) → H8 t = none → DiceAt H8 a (c + 50) → Off [a] H H8 → Q (.ref t) (upd H8 t (.tup (ns.map V.int))) := fun {ns H8 t} h1 h2 h3 ht hd8 o8 => by
      obtain ⟨g, eg, G⟩ := grOk_of m1 m30 h1 h2 h3
      rw [eg]
      exact q t _ g (.of upd_same) G (hd8.new ht) (o8.new2 ht)
    rename_i pT hpT
    have o08 : Off [a] H (upd H7 pT (HO.tup [.int way, .int y])) := o07.new2 hpT
    have d8 : DiceAt (upd H7 pT (HO.tup [.int way, .int y])) a (c + 6) := (d7.new hpT).mono (by omega)
    generalize upd H7 pT (HO.tup [.int way, .int y]) = H8 at *
    have srt : ∀ {ns : List Int} {H9 : Hp} {D : Addr}, ns.length = m + 1 → (∀ n ∈ ns, 0 ≤ n ∧ n ≤ (m : Int)) → H9 D = some (.lst (ns.map V.int)) → DiceAt H9 a (c + 50) → Off [a] H H9 → rSorted K [.ref D] H9 fun x H1 => rTup K [x] H1 Q := fun {ns H9 D} h1 h2 hD hd9 o9 => by
      refine ⟨D, ns, rfl, .of hD, by omega, fun ns' p1 e1 e2 hp1 => ?_⟩
      walk_at "go"
      rename_i t1 ht1
      exact fin (ns := ns') (by rw [e1.length_eq]; exact h1) (fun n hn => h2 n (e1.mem_iff.mp hn)) e2 ht1 (hd9.new hp1) (o9.new2 hp1)
    refine br_d (fun c1 => ?_) (fun c1 => ?_)
    · walk_at "go"
      rw [em1]
      refine lcR_mk ⟨by omega, by omega⟩ (fun D i H9 => ∃ ns : List Int, ns.length = i ∧ (∀ n ∈ ns, 0 ≤ n ∧ n ≤ (m : Int)) ∧ H9 D = some (.lst (ns.map V.int)) ∧ DiceAt H9 a (c + 6 + i) ∧ Off [a] H8 H9)
        (fun D hD => ⟨[], rfl, fun n hn => (by cases hn), upd_same, (d8.new hD).mono (by omega), .new hD⟩) (fun D i H9 hD hi hP => ?_) (fun D H9 hD hP => ?_)
      · rw [Int.toNat_natCast] at hi
        obtain ⟨ns, l1, l2, e9, d9, o9⟩ := hP
        have naD : a ≠ D := d8.ne hD
        refine ⟨rfl, ?_⟩
        walk_at "go"
        rename_i z H10 z0 z1 d10 o10
        refine g_app (acc := ns.map V.int) (o10.at (by simpa using naD.symm) e9) (by rw [List.length_map, sizeLine_eq]; omega) ⟨ns ++ [z], by rw [List.length_append, l1]; rfl, fun n hn => ?_, by rw [upd_same, List.map_append]; rfl, (d10.put naD).mono (by omega), (o9.trans o10).mut hD⟩
        rcases List.mem_append.mp hn with h | h
        · exact l2 n h
        · cases List.mem_singleton.mp h
          omega
      · rw [Int.toNat_natCast] at hP
        obtain ⟨ns, l1, l2, e9, d9, o9⟩ := hP
        walk_at "go"
        exact srt l1 l2 e9 (d9.mono (by omega)) (o08.trans o9)
    have hi30 : ∀ {i : Nat}, i < ((m + 1 : Nat) : Int).toNat → (i : Int) ≤ (m : Int) := fun h => by rw [Int.toNat_natCast] at h; omega
    walk_at "go"
    refine br_d (fun c2 => ?_) (fun c2 => ?_)
    · walk_at "go"
      rw [em1]
      have big : ∀ {i : Nat}, (i : Int) ≤ (m : Int) → (0 ≤ y * (i : Int) ∧ y * (i : Int) ≤ 120) ∧ 0 ≤ y * (i : Int) * ((m : Int) - (i : Int)) ∧ y * (i : Int) * ((m : Int) - (i : Int)) ≤ 3600 := fun {i} h => by
        have a1 : 0 ≤ y * (i : Int) := Int.mul_nonneg (by omega) (by omega)
        have a2 : y * (i : Int) ≤ 4 * 30 := Int.mul_le_mul (by omega) (by omega) (by omega) (by omega)
        have a3 : 0 ≤ y * (i : Int) * ((m : Int) - (i : Int)) := Int.mul_nonneg a1 (by omega)
        have a4 : y * (i : Int) * ((m : Int) - (i : Int)) ≤ 120 * 30 := Int.mul_le_mul (by omega) (by omega) (by omega) (by omega)
        exact ⟨⟨a1, by omega⟩, a3, by omega⟩
      refine lcR_map (fun i => .int (if (i : Int) + (y * (i : Int) * ((m : Int) - (i : Int))).fdiv (2 * (m : Int)) < (m : Int) then (i : Int) + (y * (i : Int) * ((m : Int) - (i : Int))).fdiv (2 * (m : Int)) else (m : Int))) ⟨by omega, by omega⟩ (by rw [Int.toNat_natCast, sizeLine_eq]; omega) (fun _ => rfl) (fun i H9 hi o9 M kk => ?_) (fun D H9 hD o9 e9 => ?_)
      · have hi' := hi30 hi
        obtain ⟨⟨b1, b2⟩, b3, b4⟩ := big hi'
        walk_at "go"
        exact kk _ (.refl _ _)
      · rw [Int.toNat_natCast] at e9
        walk_at "go"
        refine srt (ns := (List.range (m + 1)).map fun i : Nat => (if (i : Int) + (y * (i : Int) * ((m : Int) - (i : Int))).fdiv (2 * (m : Int)) < (m : Int) then (i : Int) + (y * (i : Int) * ((m : Int) - (i : Int))).fdiv (2 * (m : Int)) else (m : Int))) (by rw [List.length_map, List.length_range]) (fun n hn => ?_) (by rw [e9, List.map_map]; rfl) ((d8.off (o9) nin_nil).mono (by omega)) (o08.trans (o9.mono fun _ z => absurd z (by simp)))
        obtain ⟨i, hi, rfl⟩ := List.mem_map.mp hn
        have hi' : (i : Int) ≤ (m : Int) := by have := List.mem_range.mp hi; omega
        obtain ⟨_, b3, _⟩ := big hi'
        have e2 := Int.fdiv_eq_ediv_of_nonneg (y * (i : Int) * ((m : Int) - (i : Int))) (show (0 : Int) ≤ 2 * (m : Int) by omega)
        have e3 : 0 ≤ (y * (i : Int) * ((m : Int) - (i : Int))).fdiv (2 * (m : Int)) := by rw [e2]; exact Int.ediv_nonneg b3 (by omega)
        split <;> omega
    · walk_at "go"
      rw [em1]
      refine lcR_map (fun i => .int (if ((i : Int) * y).fdiv 2 < (m : Int) then ((i : Int) * y).fdiv 2 else (m : Int))) ⟨by omega, by omega⟩ (by rw [Int.toNat_natCast, sizeLine_eq]; omega) (fun _ => rfl) (fun i H9 hi o9 M kk => ?_) (fun D H9 hD o9 e9 => ?_)
      · have hi' := hi30 hi
        have b1 : 0 ≤ (i : Int) * y := Int.mul_nonneg (by omega) (by omega)
        have b2 : (i : Int) * y ≤ 30 * 4 := Int.mul_le_mul (by omega) (by omega) (by omega) (by omega)
        walk_at "go"
        exact kk _ (.refl _ _)
      · rw [Int.toNat_natCast] at e9
        have e9' : H9 D = some (.lst (((List.range (m + 1)).map fun i : Nat => (if ((i : Int) * y).fdiv 2 < (m : Int) then ((i : Int) * y).fdiv 2 else (m : Int))).map V.int)) := by rw [e9, List.map_map]; rfl
        have fd : ∀ i : Nat, ((i : Int) * y).fdiv 2 = ((i : Int) * y) / 2 := fun i => Int.fdiv_eq_ediv_of_nonneg _ (by omega)
        walk_at "go"
        rename_i t1 ht1
        refine fin (by rw [List.length_map, List.length_range]) (fun n hn => ?_) ?_ ht1 ((d8.off (o9) nin_nil).mono (by omega)) (o08.trans (o9.mono fun _ z => absurd z (by simp)))
        · obtain ⟨i, hi, rfl⟩ := List.mem_map.mp hn
          have b1 : 0 ≤ (i : Int) * y := Int.mul_nonneg (by omega) (by omega)
          have := fd i
          split <;> omega
        · rw [List.pairwise_map]
          refine List.Pairwise.imp (fun {i j} hij => ?_) List.pairwise_lt_range
          have b1 : (i : Int) * y ≤ (j : Int) * y := Int.mul_le_mul_of_nonneg_right (by omega) (by omega)
          rw [fd i, fd j]
          split <;> split <;> omega
end
end SH
end

section
/-! #### the walk's words -/
local macro_rules | `(tactic| walk_at "ne0") => `(tactic| first
  | assumption
  | (refine Ne.symm ?_; assumption))
local macro_rules | `(tactic| walk_at "ne") => `(tactic| first
  | assumption
  | (refine Ne.symm ?_; assumption)
  | (refine' L2.ne_of_none ?gx (by assumption); (case gx => walk_at "hp"))
  | (refine' Ne.symm (L2.ne_of_none ?gx (by assumption)); (case gx => walk_at "hp")))
local macro_rules | `(tactic| walk_at "hp") => `(tactic| first
  | assumption
  | exact L2.upd_same
  | (refine' SH.upd_new ?gh (by assumption); (case gh => walk_at "hp"))
  | (refine' (L2.upd_ne ?gn).trans ?gh; (case gn => walk_at "ne0"); (case gh => walk_at "hp"))
  | (refine' SH.Off.at (by assumption) ?gn ?gh; (case gn => walk_at "nin"); (case gh => walk_at "hp")))
local macro_rules | `(tactic| walk_at "nin") => `(tactic| first
  | exact SH.nin_nil
  | (refine SH.nin_cons ?_ ?_; (· walk_at "ne0"); (· walk_at "nin")))
local macro_rules | `(tactic| walk_at "sq") => `(tactic| first
  | assumption
  | (apply L2.SqL.of; (· walk_at "hp"))
  | (apply L2.SqT.of; (· walk_at "hp"))
  | (refine' SH.seqT_new ?gx (by assumption); (case gx => walk_at "sq"))
  | (refine' SH.seqL_new ?gx (by assumption); (case gx => walk_at "sq"))
  | (refine' SH.Off.seqT (by assumption) ?gx; (case gx => walk_at "sq"))
  | (refine' SH.Off.seqL (by assumption) ?gy ?gx; (case gx => walk_at "sq"); (case gy => walk_at "nin")))
local macro_rules | `(tactic| walk_at "kd") => `(tactic| first
  | assumption | exact SH.KdV.int _ | exact SH.KdV.bl _ | exact SH.KdV.str _ | exact SH.KdV.non
  | (apply SH.KdV.tup; (· walk_at "sq")) | (apply SH.KdV.lst; (· walk_at "sq")))
/-- a way that cannot be -/
local macro_rules | `(tactic| walk_at "no") => `(tactic| (exfalso; first | assumption | omega | contradiction | (simp_all; done)))
/-- one step -/
local macro_rules | `(tactic| walk_at "g1") => `(tactic| with_reducible first
  | refine SH.g_var (by with_unfolding_all rfl) ?_ | refine SH.g_c ?_ | refine SH.g_op ?_ | refine SH.g_un ?_ | refine SH.g_I0 ?_ | refine SH.g_U ?_
  | refine SH.g_eqI ?_ | refine SH.g_neI ?_ | refine SH.g_eqS ?_ | refine SH.g_neS ?_
  | refine SH.g_test ?_ | refine SH.g_B ?_ | refine SH.g_isB ?_ | refine SH.g_and ?_ | refine SH.g_or ?_ | refine SH.g_not ?_ | refine SH.g_andV ?_ | refine SH.g_orV ?_ | refine SH.g_notV ?_ | refine SH.g_ifE ?_ | refine SH.g_chain ?_
  | refine SH.g_nil ?_ | refine SH.g_cons ?_ | refine SH.g_tup ?_ | refine SH.g_lst ?_ | refine SH.g_call ?_ | refine SH.g_fld ?_ | refine SH.g_meth ?_ | refine SH.g_make ?_ | refine SH.g_cb ?_ | refine SH.g_bm ?_
  | refine SH.g_seq ?_ | refine SH.g_asg ?_ | refine SH.g_name ?_ | refine SH.g_drop ?_ | refine SH.g_ret ?_ | refine SH.g_retN ?_ | refine SH.g_next ?_ | refine SH.g_brk ?_ | refine SH.g_cnt ?_ | refine SH.g_ifs ?_ | refine SH.g_par ?_ | refine SH.g_par2 ?_ | refine SH.g_fldS ?_ | refine SH.g_raise ?_ | refine SH.g_rs ?_
  | refine SH.g_sub ?_ | refine SH.g_yes ?_ | refine SH.g_sl ?_ | refine SH.g_noPart ?_ | refine SH.g_part ?_ | refine SH.g_intO ?_ | refine SH.g_dget ?_ | refine SH.g_dput ?_ | refine SH.g_forR ?_ | refine SH.g_forL ?_ | refine SH.g_forT ?_ | refine SH.g_lcR ?_ | refine SH.g_lcL ?_ | refine SH.g_lcT ?_ | refine SH.g_gcons ?_ | refine SH.g_gnil ?_
  | refine SH.br_t ?_ | refine SH.br_f ?_
  | refine SH.g_int ?_ | refine SH.g_abs ?_ | refine SH.g_max2 ?_ | refine SH.g_min2 ?_)
local macro_rules | `(tactic| walk_at "g2") => `(tactic| first
  | walk_at "g1"
  | ((with_reducible refine' SH.g_isiInt ?ga ?gz); (case ga => walk_at "kd"))
  | ((with_reducible refine' SH.g_isiBool ?ga ?gz); (case ga => walk_at "kd"))
  | ((with_reducible refine' SH.g_isiStr ?ga ?gz); (case ga => walk_at "kd"))
  | ((with_reducible refine' SH.g_isiTup ?ga ?gz); (case ga => walk_at "kd"))
  | ((with_reducible refine' SH.g_ixT ?ga ?gb ?gz); (case ga => walk_at "sq"); (case gb => rfl))
  | ((with_reducible refine' SH.g_ixL ?ga ?gb ?gz); (case ga => walk_at "sq"); (case gb => first | rfl | (apply SH.atI_refs; assumption)))
  | ((with_reducible refine SH.br_F ?_ ?_); (· decide +kernel)) | ((with_reducible refine SH.br_T ?_ ?_); (· decide +kernel)) | ((with_reducible refine SH.br_NF ?_ ?_); (· decide +kernel)) | ((with_reducible refine SH.br_NT ?_ ?_); (· decide +kernel))
  | ((with_reducible refine' SH.g_gtup ?ga ?gb ?gz); (case ga => walk_at "sq"); (case gb => rfl))
  | ((with_reducible refine' SH.g_lenT ?ga ?gz); (case ga => walk_at "sq"))
  | ((with_reducible refine' SH.g_lenL ?ga ?gz); (case ga => walk_at "sq"))
  | ((with_reducible refine SH.g_mkT (SH.sz rfl) ?_); intro _ _)
  | ((with_reducible refine SH.g_mkL (SH.sz rfl) ?_); intro _ _)
  | ((with_reducible refine SH.g_dnew ?_); intro _ _)
  | ((with_reducible refine' SH.g_tupL ?ga ?gz); (case ga => walk_at "sq"); intro _ _)
  | ((with_reducible refine' SH.g_lstL ?ga ?gz); (case ga => walk_at "sq"); intro _ _)
  | ((with_reducible refine' SH.g_lstT ?ga ?gz); (case ga => walk_at "sq"); intro _ _)
  | ((with_reducible refine' SH.g_dgR ?ga ?gb ?gz); (case ga => walk_at "hp"); (case gb => walk_at "dv"))
  | ((with_reducible refine' SH.g_fldR ?ga ?gb ?gc ?gd ?gz); (case ga => walk_at "hp"); (case gb => walk_at "cl"); (case gc => walk_at "na"); (case gd => walk_at "fv"))
  | ((with_reducible refine' SH.g_insR ?ga ?gb ?gz); (case ga => walk_at "hp"); (case gb => walk_at "fn"))
  | ((with_reducible refine' SH.g_setL ?ga ?gb ?gz); (case ga => walk_at "hp"); (case gb => rfl))
  | ((with_reducible refine SH.g_I ?_ ?_); (· walk_at "ci"))
  | ((with_reducible refine' SH.g_slL ?ga ?gz); (case ga => walk_at "sq"); intro _ _)
  | ((with_reducible refine' SH.g_cat ?ga ?gb ?gc ?gz); (case ga => walk_at "hp"); (case gb => walk_at "hp"); (case gc => walk_at "ls"); intro _ _))
/-- the side conditions of numbers: a divisor, a factor -/
local macro_rules | `(tactic| walk_at "ci") => `(tactic| first
  | (show _ ≠ _; omega) | (show _ < _; omega) | (constructor <;> omega) | (refine Or.inr ⟨?_, ?_⟩ <;> (show _ < _; omega)) | (refine Or.inl ⟨?_, ?_⟩ <;> (show _ < _; omega)) | (refine ⟨?_, ?_, ?_⟩ <;> decide))
local macro_rules | `(tactic| walk_at "ls") => `(tactic| first | (show _ ≤ _; exact Nat.le_trans (by assumption) (by decide)) | (show _ ≤ _; exact Nat.le_trans (by simp; omega) (by decide : 1000 ≤ sizeLine)))
local macro_rules | `(tactic| walk_at "dv") => `(tactic| rfl)
local macro_rules | `(tactic| walk_at "fv") => `(tactic| rfl)
local macro_rules | `(tactic| walk_at "fn") => `(tactic| rfl)
local macro_rules | `(tactic| walk_at "cl") => `(tactic| assumption)
local macro_rules | `(tactic| walk_at "na") => `(tactic| assumption)
local macro_rules | `(tactic| walk_at "go") => `(tactic| repeat walk_at "g2")
/-- a way is split -/
local macro_rules | `(tactic| walk_at "br") => `(tactic| with_reducible first
  | refine SH.br_d (fun _ => ?_) (fun _ => ?_) | refine SH.br_nd (fun _ => ?_) (fun _ => ?_) | refine SH.br_b (fun _ => ?_) (fun _ => ?_))
/-- all ways -/
local macro_rules | `(tactic| walk_at "all") => `(tactic| repeat' first | walk_at "g2" | (walk_at "br" <;> try (walk_at "no")))
/-- a truth value is the other -/
local macro_rules | `(tactic| walk_at "bq") => `(tactic| first | rfl | (simp_all; done) | (simp_all; omega) | (simp only [decide_eq_true_eq, decide_eq_false_iff_not, Bool.and_eq_true, Bool.or_eq_true] at *; omega))
/-- what was tracked is as it was -/
local macro_rules | `(tactic| walk_at "of") => `(tactic| first
  | assumption
  | exact SH.Off.refl _ _
  | (refine' SH.Off.new2 ?gx (by assumption); (case gx => walk_at "of"))
  | (refine' SH.Off.mut ?gx (by assumption); (case gx => walk_at "of"))
  | (refine' SH.Off.trans' ?gx (by assumption) ?gy; (case gy => (intro _ h; (first | exact h | (simp at h; done) | (simp at h ⊢; simp [h]; done)))); (case gx => walk_at "of")))
/-- kinds; parts of tuples; stars -/
local macro_rules | `(tactic| walk_at "g2") => `(tactic| first
  | (with_reducible first | refine SH.br_ntt ?_ | refine SH.br_ntf ?_ | refine SH.br_k ?_ | refine SH.br_nk ?_ | refine SH.g_star ?_ | refine SH.g_forR2 ?_ | refine SH.g_lcZ ?_ | refine SH.g_enL ?_)
  | ((with_reducible refine' SH.g_slA ?ga ?gz); (case ga => walk_at "sq"); intro _ _ _ _)
  | ((with_reducible refine' SH.g_app' ?ga ?gb ?gz); (case ga => walk_at "hp"); (case gb => walk_at "lt"); intro _ _ _)
  | ((with_reducible refine' SH.g_bml ?ga ?gz); (case ga => walk_at "sq"))
  | ((with_reducible refine' SH.g_popF ?ga ?gz); (case ga => walk_at "hp"); intro _ _ _)
  | (with_reducible first | refine SH.g_pnil ?_ | refine SH.g_pcons ?_ | (refine SH.g_disp ?_; intro _ _))
  | ((with_reducible refine' SH.g_kw ?gz))
  | ((with_reducible refine SH.g_kwR rfl ?_)))
local macro_rules | `(tactic| walk_at "lt") => `(tactic| (rw [PySem.sizeLine_eq]; omega))
namespace SH
open PySem PySem.Spec PyProof.Rows L2
theorem eqv_empty : ∀ ds : List PyData, PyData.eqv (.list ds) (.list []) = ds.isEmpty
  | [] => rfl
  | _ :: _ => rfl
theorem ints_dpAll {K : PySem.W.Frag} {H : Hp} : ∀ ns : List Int, DpAll K H (ns.map V.int) (ns.map PyData.int)
  | [] => .nil
  | n :: ns => .cons (.int n) (ints_dpAll ns)
theorem ints_lay : ∀ ns : List Int, PyData.canLayAll0 (ns.map PyData.int) = true
  | [] => rfl
  | n :: ns => by
    show (PyData.canLay0 (.int n) && PyData.canLayAll0 (ns.map PyData.int)) = true
    rw [ints_lay ns]
    rfl
theorem ints_depth : ∀ ns : List Int, PyData.depthAll (ns.map PyData.int) = 0
  | [] => rfl
  | n :: ns => by
    show max (PyData.depth (.int n)) (PyData.depthAll (ns.map PyData.int)) = 0
    rw [ints_depth ns]
    rfl
theorem ints_shaped (ns : List Int) : SeqAt.shaped (.list (ns.map PyData.int)) = true := by
  unfold SeqAt.shaped
  rw [Bool.and_eq_true, decide_eq_true_eq]
  refine ⟨ints_lay ns, ?_⟩
  show PyData.depthAll (ns.map PyData.int) + 1 ≤ 64
  rw [ints_depth ns]
  omega
/-- ints != [] -/
theorem g_neInts {K : PySem.W.Frag} {H : Hp} {Q : VK} {u p : Addr} {ns : List Int} (h : H u = some (.lst (ns.map V.int))) (hp : H p = some (.lst [])) (q : Q (.bl (!ns.isEmpty)) H) : rNeD K (.ref u) (.ref p) H Q :=
  g_neD (.lst (SqL.of h) (ints_dpAll ns)) (.lst (SqL.of hp) .nil) (ints_shaped ns) rfl (by rw [eqv_empty]; cases ns <;> exact q)
def fracZ (p q : Int) : Bool := decide (1 ≤ q) && decide (Nat.gcd p.natAbs q.toNat = 1)
def spLFrac (K : PySem.W.Frag) : Sp := fun vs H Q _ => ∃ (t : Addr) (p q : Int), vs = [.ref t] ∧ H t = some (.tup [.int p, .int q]) ∧ ∀ H', Off [] H H' → Q (.bl (fracZ p q)) H'
section
variable {P : Program} {w : World} {K : PySem.W.Frag} {mg : Str → Option Value} {base : Heap}
theorem ok_law_is_frac (T : Txt P w K mg) : DefOk P w K mg base "_law_is_frac" 1 ["value"] (spLFrac K) := by
  refine T.d_law_is_frac.ok sc_law_is_frac (fun _ _ _ _ _ _ us hl => match us, hl with | [_], _ => rfl) (fun vs H Q E h => ?_) (fun f cdv A outer s H vs Q E hr h => ?_)
  · obtain ⟨t, p, q, rfl, _⟩ := h
    rfl
  · obtain ⟨t, p, q, rfl, ht, k⟩ := h
    have hsz := sizeLine_eq
    have B := T.blt
    have hu := hu_of hr
    refine ⟨_, (pss_cons (ps_if (PW.pt (pw_or (pt_not (pt_val (pe_callB (call_isiK' (K := K) rfl) (by rfl) B.b_isinstance (by decide +kernel) (pa_cons (pv 0) (pa_cons (pe_bltn (v := .ty "tuple") rfl B.b_tuple (by decide +kernel) rfl) pa_nil))) (by intro _; rfl))) (pw_or (pt_cmpR op_ne (pe_callB (c_lenK (K := K) rfl) (by rfl) B.b_len PySem.boot_len (pa_cons (pv 0) pa_nil)) pe_int (nomark _)) (pw_or1 (pt_cmpR (op_neDK (K := K) rfl hr.units) (pe_lc (own := [("one", 1)]) rfl sc_law_is_frac.nd (pi_tupK (K := K) rfl (pv 0)) (blkOk_by (own := [("one", 1)]) (N := ["value", "one", "two"]) (sc := defScope s_law_is_frac) (by decide +kernel)) (fun _ _ _ _ _ => (pg_name (i := 1) sc_law_is_frac.nd rfl (by first | exact Or.inl rfl | exact Or.inr rfl))) (fun _ _ _ _ _ => (pts_one (PW.pt (pw_or (pt_not (pt_val (pe_callB (call_isiK' (K := K) rfl) (by rfl) B.b_isinstance (by decide +kernel) (pa_cons (pv 1) (pa_cons (pe_bltn (v := .ty "int") rfl B.b_int (by decide +kernel) rfl) pa_nil))) (by intro _; rfl))) (pw_or1 (pt_val (pe_callB (call_isiK' (K := K) rfl) (by rfl) B.b_isinstance (by decide +kernel) (pa_cons (pv 1) (pa_cons (pe_bltn (v := .ty "bool") rfl B.b_bool (by decide +kernel) rfl) pa_nil))) (by intro _; rfl))))))) (fun _ _ _ _ _ => (pv 1))) (pe_lst pa_nil) (nomark _))))))
    (pss_one (ps_ret pe_bl))
    pss_nil)
  (pss_cons (ps_par (i := 1) (j := 2) (by rfl) sc_law_is_frac.nd rfl rfl (by decide) rfl rfl (pa_cons (pe_callB c_abs (by rfl) B.b_abs (by decide +kernel) (pa_cons (pe_ix (ix_tupK (K := K) rfl) (pv 0) pe_int (fun _ _ => rfl)) pa_nil)) (pa_cons (pe_ix (ix_tupK (K := K) rfl) (pv 0) pe_int (fun _ _ => rfl)) pa_nil)) (by rfl))
  (pss_cons (ps_if (pt_cmpR op_lt (pv 2) pe_int (nomark _))
    (pss_one (ps_ret pe_bl))
    pss_nil)
  (pss_cons (ps_while (passes_of rfl) (pt_cmpR op_gt (pv 2) pe_int (nomark _))
    (pss_one (ps_par (i := 1) (j := 2) (by rfl) sc_law_is_frac.nd rfl rfl (by decide) rfl rfl (pa_cons (pv 2) (pa_cons (pe_op op_modN (pe_callTy c_int (by rfl) B.b_int (by decide +kernel) (pa_cons (pv 1) pa_nil)) (pv 2)) pa_nil)) (by rfl))))
  (pss_one (ps_ret (pe_cmpR op_eq (pv 1) pe_int (nomark _)))))))), ?_⟩
    have hk : KdV K H (.ref t) .tup := .tup (.of ht)
    walk_at "go"
    refine br_NT rfl ?_
    walk_at "go"
    refine lcT_pure (fun x => x) (fun _ => false) (.of ht) (by rw [hsz]; exact Nat.le_of_ble_eq_true rfl) (fun _ => rfl) ?_ ?_ ?_
    · intro x H1 hx o1 M kk
      obtain ⟨i, rfl⟩ : ∃ i : Int, x = .int i := by
        simp only [List.mem_cons, List.not_mem_nil, or_false] at hx
        rcases hx with rfl | rfl
        · exact ⟨p, rfl⟩
        · exact ⟨q, rfl⟩
      walk_at "go"
      rw [show (!(Kd.int == Kd.int || Kd.int == Kd.bl)) = false from rfl]
      walk_at "go"
      exact kk _ (.refl _ _)
    · intro x H1 hx hc
      cases hc
    · intro D H1 hD o1 e4
      have e5 : H1 D = some (.lst []) := e4
      have ht1 := o1.tups _ _ ht
      walk_at "go"
      rename_i e he
      refine g_neD (.lst (.of (upd_new e5 he)) .nil) (.lst (.of upd_same) .nil) rfl rfl ?_
      rw [show PyData.eqv (.list []) (.list []) = true from rfl]
      have ht2 := upd_new (o := .lst []) ht1 he
      have oo : Off [] H (upd H1 e (.lst [])) := o1.new2 he
      generalize upd H1 e (.lst []) = H2 at *
      walk_at "go"
      refine br_d (fun c => ?_) (fun c => ?_)
      · walk_at "go"
        refine qb (k _ oo) ?_
        show (decide (1 ≤ q) && _) = false
        rw [decide_eq_false (by omega), Bool.false_and]
      have ea : (if p < 0 then -p else p) = ((p.natAbs : Nat) : Int) := by split <;> omega
      have ej : q = ((q.toNat : Nat) : Int) := by omega
      walk_at "go"
      refine g_while (fun m σ H' => ∃ x y : Nat, σ = [some (.ref t), some (.int (x : Int)), some (.int (y : Int))] ∧ H' = H2 ∧ Nat.gcd x y = Nat.gcd p.natAbs q.toNat ∧ m = y) q.toNat ⟨p.natAbs, q.toNat, by rw [← ea, ← ej]; rfl, rfl, rfl, rfl⟩ (fun m σ H' hW => ?_)
      obtain ⟨x, _, rfl, rfl, hg, rfl⟩ := hW
      walk_at "go"
      refine br_d (fun c => ?_) (fun c => ?_)
      · refine g_whN ?_
        walk_at "go"
        have e := Int.fmod_eq_emod_of_nonneg (x : Int) (show (0 : Int) ≤ (m : Int) by omega)
        refine ⟨_, _, rfl, x % m, Nat.mod_lt _ (by omega), m, x % m, ?_, rfl, ?_, rfl⟩
        · rw [e, ← Int.natCast_emod]
          rfl
        · rw [← hg, Nat.gcd_comm x m, Nat.gcd_rec m x, Nat.gcd_comm]
      · have : m = 0 := by omega
        subst this
        walk_at "go"
        rw [Nat.gcd_zero_right] at hg
        rw [hg]
        refine qb (k _ oo) ?_
        show (decide (1 ≤ q) && decide (Nat.gcd p.natAbs q.toNat = 1)) = _
        rw [decide_eq_true (show 1 ≤ q by omega), Bool.true_and]
        apply decide_eq_decide.mpr
        omega
end
end SH
end

section
/-! #### the walk's words -/
local macro_rules | `(tactic| walk_at "ne0") => `(tactic| first
  | assumption
  | (refine Ne.symm ?_; assumption))
local macro_rules | `(tactic| walk_at "ne") => `(tactic| first
  | assumption
  | (refine Ne.symm ?_; assumption)
  | (refine' L2.ne_of_none ?gx (by assumption); (case gx => walk_at "hp"))
  | (refine' Ne.symm (L2.ne_of_none ?gx (by assumption)); (case gx => walk_at "hp")))
local macro_rules | `(tactic| walk_at "hp") => `(tactic| first
  | assumption
  | exact L2.upd_same
  | (refine' SH.upd_new ?gh (by assumption); (case gh => walk_at "hp"))
  | (refine' (L2.upd_ne ?gn).trans ?gh; (case gn => walk_at "ne0"); (case gh => walk_at "hp"))
  | (refine' SH.Off.at (by assumption) ?gn ?gh; (case gn => walk_at "nin"); (case gh => walk_at "hp")))
local macro_rules | `(tactic| walk_at "nin") => `(tactic| first
  | exact SH.nin_nil
  | (refine SH.nin_cons ?_ ?_; (· walk_at "ne0"); (· walk_at "nin")))
local macro_rules | `(tactic| walk_at "sq") => `(tactic| first
  | assumption
  | (apply L2.SqL.of; (· walk_at "hp"))
  | (apply L2.SqT.of; (· walk_at "hp"))
  | (refine' SH.seqT_new ?gx (by assumption); (case gx => walk_at "sq"))
  | (refine' SH.seqL_new ?gx (by assumption); (case gx => walk_at "sq"))
  | (refine' SH.Off.seqT (by assumption) ?gx; (case gx => walk_at "sq"))
  | (refine' SH.Off.seqL (by assumption) ?gy ?gx; (case gx => walk_at "sq"); (case gy => walk_at "nin")))
local macro_rules | `(tactic| walk_at "kd") => `(tactic| first
  | assumption | exact SH.KdV.int _ | exact SH.KdV.bl _ | exact SH.KdV.str _ | exact SH.KdV.non
  | (apply SH.KdV.tup; (· walk_at "sq")) | (apply SH.KdV.lst; (· walk_at "sq")))
/-- a way that cannot be -/
local macro_rules | `(tactic| walk_at "no") => `(tactic| (exfalso; first | assumption | omega | contradiction | (simp_all; done)))
/-- one step -/
local macro_rules | `(tactic| walk_at "g1") => `(tactic| with_reducible first
  | refine SH.g_var (by with_unfolding_all rfl) ?_ | refine SH.g_c ?_ | refine SH.g_op ?_ | refine SH.g_un ?_ | refine SH.g_I0 ?_ | refine SH.g_U ?_
  | refine SH.g_eqI ?_ | refine SH.g_neI ?_ | refine SH.g_eqS ?_ | refine SH.g_neS ?_
  | refine SH.g_test ?_ | refine SH.g_B ?_ | refine SH.g_isB ?_ | refine SH.g_and ?_ | refine SH.g_or ?_ | refine SH.g_not ?_ | refine SH.g_andV ?_ | refine SH.g_orV ?_ | refine SH.g_notV ?_ | refine SH.g_ifE ?_ | refine SH.g_chain ?_
  | refine SH.g_nil ?_ | refine SH.g_cons ?_ | refine SH.g_tup ?_ | refine SH.g_lst ?_ | refine SH.g_call ?_ | refine SH.g_fld ?_ | refine SH.g_meth ?_ | refine SH.g_make ?_ | refine SH.g_cb ?_ | refine SH.g_bm ?_
  | refine SH.g_seq ?_ | refine SH.g_asg ?_ | refine SH.g_name ?_ | refine SH.g_drop ?_ | refine SH.g_ret ?_ | refine SH.g_retN ?_ | refine SH.g_next ?_ | refine SH.g_brk ?_ | refine SH.g_cnt ?_ | refine SH.g_ifs ?_ | refine SH.g_par ?_ | refine SH.g_par2 ?_ | refine SH.g_fldS ?_ | refine SH.g_raise ?_ | refine SH.g_rs ?_
  | refine SH.g_sub ?_ | refine SH.g_yes ?_ | refine SH.g_sl ?_ | refine SH.g_noPart ?_ | refine SH.g_part ?_ | refine SH.g_intO ?_ | refine SH.g_dget ?_ | refine SH.g_dput ?_ | refine SH.g_forR ?_ | refine SH.g_forL ?_ | refine SH.g_forT ?_ | refine SH.g_lcR ?_ | refine SH.g_lcL ?_ | refine SH.g_lcT ?_ | refine SH.g_gcons ?_ | refine SH.g_gnil ?_
  | refine SH.br_t ?_ | refine SH.br_f ?_
  | refine SH.g_int ?_ | refine SH.g_abs ?_ | refine SH.g_max2 ?_ | refine SH.g_min2 ?_)
local macro_rules | `(tactic| walk_at "g2") => `(tactic| first
  | walk_at "g1"
  | ((with_reducible refine' SH.g_isiInt ?ga ?gz); (case ga => walk_at "kd"))
  | ((with_reducible refine' SH.g_isiBool ?ga ?gz); (case ga => walk_at "kd"))
  | ((with_reducible refine' SH.g_isiStr ?ga ?gz); (case ga => walk_at "kd"))
  | ((with_reducible refine' SH.g_isiTup ?ga ?gz); (case ga => walk_at "kd"))
  | ((with_reducible refine' SH.g_ixT ?ga ?gb ?gz); (case ga => walk_at "sq"); (case gb => rfl))
  | ((with_reducible refine' SH.g_ixL ?ga ?gb ?gz); (case ga => walk_at "sq"); (case gb => first | rfl | (apply SH.atI_refs; assumption)))
  | ((with_reducible refine SH.br_F ?_ ?_); (· decide +kernel)) | ((with_reducible refine SH.br_T ?_ ?_); (· decide +kernel)) | ((with_reducible refine SH.br_NF ?_ ?_); (· decide +kernel)) | ((with_reducible refine SH.br_NT ?_ ?_); (· decide +kernel))
  | ((with_reducible refine' SH.g_gtup ?ga ?gb ?gz); (case ga => walk_at "sq"); (case gb => rfl))
  | ((with_reducible refine' SH.g_lenT ?ga ?gz); (case ga => walk_at "sq"))
  | ((with_reducible refine' SH.g_lenL ?ga ?gz); (case ga => walk_at "sq"))
  | ((with_reducible refine SH.g_mkT (SH.sz rfl) ?_); intro _ _)
  | ((with_reducible refine SH.g_mkL (SH.sz rfl) ?_); intro _ _)
  | ((with_reducible refine SH.g_dnew ?_); intro _ _)
  | ((with_reducible refine' SH.g_tupL ?ga ?gz); (case ga => walk_at "sq"); intro _ _)
  | ((with_reducible refine' SH.g_lstL ?ga ?gz); (case ga => walk_at "sq"); intro _ _)
  | ((with_reducible refine' SH.g_lstT ?ga ?gz); (case ga => walk_at "sq"); intro _ _)
  | ((with_reducible refine' SH.g_dgR ?ga ?gb ?gz); (case ga => walk_at "hp"); (case gb => walk_at "dv"))
  | ((with_reducible refine' SH.g_fldR ?ga ?gb ?gc ?gd ?gz); (case ga => walk_at "hp"); (case gb => walk_at "cl"); (case gc => walk_at "na"); (case gd => walk_at "fv"))
  | ((with_reducible refine' SH.g_insR ?ga ?gb ?gz); (case ga => walk_at "hp"); (case gb => walk_at "fn"))
  | ((with_reducible refine' SH.g_setL ?ga ?gb ?gz); (case ga => walk_at "hp"); (case gb => rfl))
  | ((with_reducible refine SH.g_I ?_ ?_); (· walk_at "ci"))
  | ((with_reducible refine' SH.g_slL ?ga ?gz); (case ga => walk_at "sq"); intro _ _)
  | ((with_reducible refine' SH.g_cat ?ga ?gb ?gc ?gz); (case ga => walk_at "hp"); (case gb => walk_at "hp"); (case gc => walk_at "ls"); intro _ _))
/-- the side conditions of numbers: a divisor, a factor -/
local macro_rules | `(tactic| walk_at "ci") => `(tactic| first
  | (show _ ≠ _; omega) | (show _ < _; omega) | (constructor <;> omega) | (refine Or.inr ⟨?_, ?_⟩ <;> (show _ < _; omega)) | (refine Or.inl ⟨?_, ?_⟩ <;> (show _ < _; omega)) | (refine ⟨?_, ?_, ?_⟩ <;> decide))
local macro_rules | `(tactic| walk_at "ls") => `(tactic| first | (show _ ≤ _; exact Nat.le_trans (by assumption) (by decide)) | (show _ ≤ _; exact Nat.le_trans (by simp; omega) (by decide : 1000 ≤ sizeLine)))
local macro_rules | `(tactic| walk_at "dv") => `(tactic| rfl)
local macro_rules | `(tactic| walk_at "fv") => `(tactic| rfl)
local macro_rules | `(tactic| walk_at "fn") => `(tactic| rfl)
local macro_rules | `(tactic| walk_at "cl") => `(tactic| assumption)
local macro_rules | `(tactic| walk_at "na") => `(tactic| assumption)
local macro_rules | `(tactic| walk_at "go") => `(tactic| repeat walk_at "g2")
/-- a way is split -/
local macro_rules | `(tactic| walk_at "br") => `(tactic| with_reducible first
  | refine SH.br_d (fun _ => ?_) (fun _ => ?_) | refine SH.br_nd (fun _ => ?_) (fun _ => ?_) | refine SH.br_b (fun _ => ?_) (fun _ => ?_))
/-- all ways -/
local macro_rules | `(tactic| walk_at "all") => `(tactic| repeat' first | walk_at "g2" | (walk_at "br" <;> try (walk_at "no")))
/-- a truth value is the other -/
local macro_rules | `(tactic| walk_at "bq") => `(tactic| first | rfl | (simp_all; done) | (simp_all; omega) | (simp only [decide_eq_true_eq, decide_eq_false_iff_not, Bool.and_eq_true, Bool.or_eq_true] at *; omega))
/-- what was tracked is as it was -/
local macro_rules | `(tactic| walk_at "of") => `(tactic| first
  | assumption
  | exact SH.Off.refl _ _
  | (refine' SH.Off.new2 ?gx (by assumption); (case gx => walk_at "of"))
  | (refine' SH.Off.mut ?gx (by assumption); (case gx => walk_at "of"))
  | (refine' SH.Off.trans' ?gx (by assumption) ?gy; (case gy => (intro _ h; (first | exact h | (simp at h; done) | (simp at h ⊢; simp [h]; done)))); (case gx => walk_at "of")))
/-- kinds; parts of tuples; stars -/
local macro_rules | `(tactic| walk_at "g2") => `(tactic| first
  | (with_reducible first | refine SH.br_ntt ?_ | refine SH.br_ntf ?_ | refine SH.br_k ?_ | refine SH.br_nk ?_ | refine SH.g_star ?_ | refine SH.g_forR2 ?_ | refine SH.g_lcZ ?_ | refine SH.g_enL ?_)
  | ((with_reducible refine' SH.g_slA ?ga ?gz); (case ga => walk_at "sq"); intro _ _ _ _)
  | ((with_reducible refine' SH.g_app' ?ga ?gb ?gz); (case ga => walk_at "hp"); (case gb => walk_at "lt"); intro _ _ _)
  | ((with_reducible refine' SH.g_bml ?ga ?gz); (case ga => walk_at "sq"))
  | ((with_reducible refine' SH.g_popF ?ga ?gz); (case ga => walk_at "hp"); intro _ _ _)
  | (with_reducible first | refine SH.g_pnil ?_ | refine SH.g_pcons ?_ | (refine SH.g_disp ?_; intro _ _))
  | ((with_reducible refine' SH.g_kw ?gz))
  | ((with_reducible refine SH.g_kwR rfl ?_)))
local macro_rules | `(tactic| walk_at "lt") => `(tactic| (rw [PySem.sizeLine_eq]; omega))
namespace SH
open PySem PySem.Spec PyProof.Rows L2
def spHTop (K : PySem.W.Frag) : Sp := fun vs H Q _ => ∃ p g s, vs = [.ref p, .int ((s : Nat) : Int)] ∧ SqT K H p (gV g) ∧ GrOk g ∧ s < g.length ∧ ∀ H', Off [] H H' → Q (.int ((topOf g s : Nat) : Int)) H'
def spHWor (K : PySem.W.Frag) : Sp := fun vs H Q _ => ∃ p g s x m, vs = [.ref p, .int ((topOf g s : Nat) : Int), x, .ref m] ∧ SqT K H p (gV g) ∧ GrOk g ∧ s < g.length ∧ SqT K H m [.int (bestM g (topOf g s)).1, .int (bestM g (topOf g s)).2] ∧
  ∃ b : Prop, WorV K H g (topOf g s) (bestM g (topOf g s)).1 (bestM g (topOf g s)).2 x b ∧ ∀ r H', (r = true ↔ b) → Off [] H H' → Q (.bl r) H'
section
variable {P : Program} {w : World} {K : PySem.W.Frag} {mg : Str → Option Value} {base : Heap}
theorem ok_law_h_top (T : Txt P w K mg) : DefOk P w K mg base "_law_h_top" 1 ["growth", "start"] (spHTop K) := by
  refine T.d_law_h_top.ok sc_law_h_top (fun _ _ _ _ _ _ us hl => match us, hl with | [_, _], _ => rfl) (fun vs H Q E h => ?_) (fun f cdv A outer s H vs Q E hr h => ?_)
  · obtain ⟨p, g, s, rfl, _⟩ := h
    rfl
  · obtain ⟨p, g, s, rfl, hp, G, hs, q⟩ := h
    have B := T.blt
    have hu := hu_of hr
    refine ⟨_, (pss_cons (ps_par (i := 2) (j := 3) (by rfl) sc_law_h_top.nd rfl rfl (by decide) rfl rfl (pa_cons (pe_lst (pa_cons (pv 1) pa_nil)) (pa_cons (pv 1) pa_nil)) (by rfl))
  (pss_cons (ps_for (passes_of rfl) rfl (pi_range1 rfl B.b_range (pa_cons pe_int pa_nil)) (pg_name (i := 4) sc_law_h_top.nd rfl (by first | exact Or.inl rfl | exact Or.inr rfl))
    (pss_cons (ps_set (i := 3) sc_law_h_top.nd rfl (by first | exact Or.inl rfl | exact Or.inr rfl) (pe_ix (ix_tupK (K := K) rfl) (pv 0) (pv 3) (fun _ _ => rfl)))
  (pss_one (ps_expr (pe_bmK (K := K) rfl PySem.F.plainAttrs_list PySem.F.slot_list_append PySem.F.type_list_append mt_append (pv 2) (pa_cons (pv 3) pa_nil))))))
  (pss_one (ps_ret (pe_callB (cr_maxK (K := K) rfl rfl) (by rfl) B.b_max (by decide +kernel) (pa_cons (pv 2) pa_nil)))))), ?_⟩
    have n1 := G.n1
    walk_at "go"
    rename_i L hL
    refine forR_mk (fun i σ H1 => ∃ x4, σ = [some (.ref p), some (.int (s : Int)), some (.ref L), some (.int ((orb g s i : Nat) : Int)), x4] ∧ H1 L = some (.lst (gV ((List.range (i + 1)).map (orb g s)))) ∧ Off [L] (upd H L (.lst [.int (s : Int)])) H1) (by decide)
      ⟨_, rfl, upd_same, .refl _ _⟩ (fun i σ H1 hi hP => ?_) (fun σ H1 hP => ?_)
    · obtain ⟨x4, rfl, f1, f2⟩ := hP
      have hi' : i < 40 := hi
      have hp1 := f2.seqT (seqT_new hp hL)
      have hlen : (gV ((List.range (i + 1)).map (orb g s))).length ≤ 100 := by rw [gV_len, List.length_map, List.length_range]; omega
      walk_at "go"
      refine g_ixT hp1 (gV_at (G.orb_lt hs i)) ?_
      walk_at "go"
      rename_i H2 e2 o2
      refine ⟨_, rfl, ?_, f2.trans o2⟩
      have e : (List.range (i + 1 + 1)).map (orb g s) = (List.range (i + 1)).map (orb g s) ++ [orb g s (i + 1)] := by
        rw [List.range_succ (n := i + 1), List.map_append]
        rfl
      rw [e2, e, gV_snoc]
      rfl
    · obtain ⟨x4, rfl, f1, f2⟩ := hP
      walk_at "go"
      refine ⟨L, gI ((List.range 41).map (orb g s)), rfl, .of f1, by unfold gI; rw [List.length_map, List.length_map, List.length_range]; decide, fun m hm hall => ?_⟩
      obtain ⟨k, hk, rfl⟩ := List.mem_map.mp hm
      obtain ⟨j, hj, rfl⟩ := List.mem_map.mp hk
      have it := G.top_of (T := orb g s j) (m := 40) hs (by omega) ⟨j, rfl⟩ fun k' hk' => by
        have := hall ((orb g s k' : Nat) : Int) (List.mem_map.mpr ⟨_, List.mem_map.mpr ⟨k', List.mem_range.mpr (by omega), rfl⟩, rfl⟩)
        omega
      rw [it.uniq (G.isTop hs)]
      exact q H1 ((Off.new (S := []) hL).mutA f2 hL)
theorem ok_law_h_worths (T : Txt P w K mg) : DefOk P w K mg base "_law_h_worths" 1 ["growth", "last", "value", "mean"] (spHWor K) := by
  refine T.d_law_h_worths.ok sc_law_h_worths (fun _ _ _ _ _ _ us hl => match us, hl with | [_, _, _, _], _ => rfl) (fun vs H Q E h => ?_) (fun f cdv A outer s H vs Q E hr h => ?_)
  · obtain ⟨p, g, s, x, m, rfl, _⟩ := h
    rfl
  · obtain ⟨p, g, s, x, m, rfl, hp, G, hs, hm, b, hv, q⟩ := h
    have B := T.blt
    have hu := hu_of hr
    refine ⟨_, (pss_cons (ps_if (PW.pt (pw_or (pt_not (pt_val (pe_callB (call_isiK' (K := K) rfl) (by rfl) B.b_isinstance (by decide +kernel) (pa_cons (pv 2) (pa_cons (pe_bltn (v := .ty "tuple") rfl B.b_tuple (by decide +kernel) rfl) pa_nil))) (by intro _; rfl))) (pw_or1 (pt_cmpR op_ne (pe_callB (c_lenK (K := K) rfl) (by rfl) B.b_len PySem.boot_len (pa_cons (pv 2) pa_nil)) (pe_op op_add (pv 1) pe_int) (nomark _)))))
    (pss_one (ps_ret pe_bl))
    pss_nil)
  (pss_cons (ps_if (pt_cmpR (op_neDK (K := K) rfl hr.units) (pe_lc (own := [("one", 6)]) rfl sc_law_h_worths.nd (pi_tupK (K := K) rfl (pv 2)) (blkOk_by (own := [("one", 6)]) (N := ["growth", "last", "value", "mean", "stock", "left", "one"]) (sc := defScope s_law_h_worths) (by decide +kernel)) (fun _ _ _ _ _ => (pg_name (i := 6) sc_law_h_worths.nd rfl (by first | exact Or.inl rfl | exact Or.inr rfl))) (fun _ _ _ _ _ => (pts_one (PW.pt (pw_or (pt_not (pt_val (pe_callB (call_isiK' (K := K) rfl) (by rfl) B.b_isinstance (by decide +kernel) (pa_cons (pv 6) (pa_cons (pe_bltn (v := .ty "int") rfl B.b_int (by decide +kernel) rfl) pa_nil))) (by intro _; rfl))) (pw_or (pt_val (pe_callB (call_isiK' (K := K) rfl) (by rfl) B.b_isinstance (by decide +kernel) (pa_cons (pv 6) (pa_cons (pe_bltn (v := .ty "bool") rfl B.b_bool (by decide +kernel) rfl) pa_nil))) (by intro _; rfl)) (pw_or1 (pt_cmpR op_lt (pv 6) pe_int (nomark _)))))))) (fun _ _ _ _ _ => (pv 6))) (pe_lst pa_nil) (nomark _))
    (pss_one (ps_ret pe_bl))
    pss_nil)
  (pss_cut (ps_for (passes_of rfl) rfl (pi_range1 rfl B.b_range (pa_cons (pe_op op_add (pv 1) pe_int) pa_nil)) (pg_name (i := 4) sc_law_h_worths.nd rfl (by first | exact Or.inl rfl | exact Or.inr rfl))
    (pss_one (ps_for (passes_of rfl) rfl (pi_range1 rfl B.b_range (pa_cons (pe_op op_add (pv 4) pe_int) pa_nil)) (pg_name (i := 5) sc_law_h_worths.nd rfl (by first | exact Or.inl rfl | exact Or.inr rfl))
    (pss_one (ps_if (pt_cmpR op_gt (pe_op op_add (pe_op op_mul (pe_op op_sub (pv 4) (pv 5)) (pe_ix (ix_tupK (K := K) rfl) (pv 3) pe_int (fun _ _ => rfl))) (pe_ix (ix_tupK (K := K) rfl) (pv 2) (pe_ix (ix_tupK (K := K) rfl) (pv 0) (pv 5) (fun _ _ => rfl)) (fun _ _ => rfl))) (pe_op op_add (pe_ix (ix_tupK (K := K) rfl) (pv 3) pe_int (fun _ _ => rfl)) (pe_ix (ix_tupK (K := K) rfl) (pv 2) (pv 4) (fun _ _ => rfl))) (nomark _))
    (pss_one (ps_ret pe_bl))
    pss_nil)))))
  (pss_one (ps_ret pe_bl))))), ?_⟩
    have it := G.isTop hs
    have mok := bestM_ok G it.lt it.cl
    have n1 := G.n1
    have tlt := it.lt
    have cl := it.cl
    generalize topOf g s = T0 at *
    generalize (bestM g T0).1 = N at *
    generalize (bestM g T0).2 = D0 at *
    have d0 := mok.d0
    have d1 := mok.d1
    have eT : ((T0 : Nat) : Int) + 1 = ((T0 + 1 : Nat) : Int) := by omega
    rcases hv with ⟨t, ws, rfl, ht, hl, hb⟩ | ⟨k, hk, nk, hb⟩
    rotate_left 1
    · have ek : (k == Kd.tup) = false := by cases k <;> first | rfl | exact absurd rfl nk
      walk_at "go"
      rw [ek]
      walk_at "go"
      exact q false H ⟨(fun z => by cases z), fun z => absurd z hb⟩ (.refl _ _)
    have hk : KdV K H (.ref t) .tup := .tup ht
    walk_at "go"
    refine br_nd (fun c1 => ?_) (fun c1 => ?_)
    · walk_at "go"
      refine q false H ⟨(fun z => by cases z), fun z => ?_⟩ (.refl _ _)
      have := (hb.mp z).1
      rw [List.length_map] at c1
      omega
    rw [List.length_map] at c1
    have hl' : ws.length = T0 + 1 := by omega
    walk_at "go"
    refine lcT_pure (fun x => x) (fun x => !natB x) ht (by rw [List.length_map, sizeLine_eq]; omega) (fun _ => rfl) (fun x H1 hx o1 M kk => ?_) (fun x H1 hx hc1 o1 M kk => ?_) (fun D H1 hD o1 e4 => ?_)
    · obtain ⟨n, _, rfl⟩ := List.mem_map.mp hx
      walk_at "go"
      rw [show (!(Kd.int == Kd.int || Kd.int == Kd.bl)) = false from rfl]
      walk_at "go"
      rw [show (Kd.int == Kd.bl) = false from rfl]
      walk_at "go"
      have e : decide (n < 0) = (!natB (.int n)) := by
        show _ = !decide (0 ≤ n)
        by_cases c : n < 0
        · rw [decide_eq_true c, decide_eq_false (by omega)]; rfl
        · rw [decide_eq_false c, decide_eq_true (by omega)]; rfl
      rw [e]
      exact kk _ (.refl _ _)
    · walk_at "go"
      exact kk _ (.refl _ _)
    have efl : (((ws.map V.int).filter fun x => !natB x).map fun x => x) = (ws.filter fun n => !natB (.int n)).map V.int := by
      rw [List.map_id', List.filter_map]
      rfl
    rw [efl] at e4
    walk_at "go"
    rename_i pE hE
    have o1' := o1.new2 (o := .lst []) hE
    refine g_neInts (upd_new e4 hE) upd_same ?_
    walk_at "go"
    refine br_b (fun c2 => ?_) (fun c2 => ?_)
    · walk_at "go"
      refine q false _ ⟨(fun z => by cases z), fun z => ?_⟩ o1'
      have h2 := (hb.mp z).2.1
      have : (ws.filter fun n => !natB (.int n)) = [] := by
        rw [List.filter_eq_nil_iff]
        intro n hn
        have := h2 n hn
        show ¬ (!decide (0 ≤ n)) = true
        rw [decide_eq_true this]
        decide
      rw [this] at c2
      cases c2
    have hnn : ∀ w ∈ ws, 0 ≤ w := fun w hw => by
      have c3 : (ws.filter fun n => !natB (.int n)) = [] := by
        cases h : (ws.filter fun n => !natB (.int n)) with
        | nil => rfl
        | cons x y => rw [h] at c2; cases c2
      have := List.filter_eq_nil_iff.mp c3 w hw
      have h2 : ¬ (!decide (0 ≤ w)) = true := this
      by_cases c : 0 ≤ w
      · exact c
      · rw [decide_eq_false c] at h2
        exact absurd rfl h2
    have hp3 := o1'.seqT hp
    have ht3 := o1'.seqT ht
    have hm3 := o1'.seqT hm
    generalize upd H1 pE (.lst []) = H3 at *
    refine g_cut (fun σ H4 => H4 = H3 ∧ ∀ s c, s ≤ T0 → c ≤ s → (c : Int) * D0 + wAt ws (gAt g (s - c)) ≤ N + wAt ws s) ?_ (fun σ H4 hM => ?_)
    · have fal : ∀ s c, s ≤ T0 → c ≤ s → (c : Int) * D0 + wAt ws (gAt g (s - c)) > N + wAt ws s → Q (.bl false) H3 := fun s c hs hc hgt =>
        q false H3 ⟨(fun z => by cases z), fun z => by have := (hb.mp z).2.2 s c hs hc; omega⟩ o1'
      walk_at "go"
      rw [eT]
      refine forR_mk (fun s' σ H4 => ∃ x4 x5, σ = [some (.ref p), some (.int (T0 : Int)), some (.ref t), some (.ref m), x4, x5, none] ∧ H4 = H3 ∧ ∀ s c, s < s' → c ≤ s → (c : Int) * D0 + wAt ws (gAt g (s - c)) ≤ N + wAt ws s) ⟨by omega, by omega⟩
        ⟨_, _, rfl, rfl, fun s c h => absurd h (Nat.not_lt_zero _)⟩ (fun s' σ H4 hs' hP => ?_) (fun σ H4 hP => ?_)
      rotate_left 1
      · obtain ⟨x4, x5, rfl, rfl, f1⟩ := hP
        rw [Int.toNat_natCast] at f1
        exact ⟨rfl, fun s c hs hc => f1 s c (by omega) hc⟩
      obtain ⟨x4, x5, rfl, rfl, f1⟩ := hP
      rw [Int.toNat_natCast] at hs'
      have es : ((s' : Nat) : Int) + 1 = ((s' + 1 : Nat) : Int) := by omega
      walk_at "go"
      rw [es]
      refine forR_mk (fun l' σ H5 => ∃ x5, σ = [some (.ref p), some (.int (T0 : Int)), some (.ref t), some (.ref m), some (.int (s' : Int)), x5, none] ∧ H5 = H4 ∧ ∀ l, l < l' → ((s' : Int) - (l : Int)) * D0 + wAt ws (gAt g l) ≤ N + wAt ws s') ⟨by omega, by omega⟩
        ⟨_, rfl, rfl, fun c h => absurd h (Nat.not_lt_zero _)⟩ (fun l' σ H5 hl' hP => ?_) (fun σ H5 hP => ?_)
      rotate_left 1
      · obtain ⟨x5, rfl, rfl, f2⟩ := hP
        rw [Int.toNat_natCast] at f2
        refine ⟨_, _, rfl, rfl, fun s c hs hc => ?_⟩
        by_cases e : s = s'
        · subst e
          have := f2 (s - c) (by omega)
          rw [show ((s : Int) - ((s - c : Nat) : Int)) = (c : Int) by omega] at this
          exact this
        · exact f1 s c (by omega) hc
      obtain ⟨x5, rfl, rfl, f2⟩ := hP
      rw [Int.toNat_natCast] at hl'
      have hcl := cl l' (by omega)
      walk_at "go"
      refine g_ixT hp3 (gV_at (by omega)) ?_
      refine g_ixT ht3 (wAt_ix (by omega)) ?_
      walk_at "go"
      refine g_ixT ht3 (wAt_ix (by omega)) ?_
      walk_at "go"
      refine br_d (fun c3 => ?_) (fun c3 => ?_)
      · walk_at "go"
        refine fal s' (s' - l') (by omega) (by omega) ?_
        rw [show s' - (s' - l') = l' by omega, show ((s' - l' : Nat) : Int) = (s' : Int) - (l' : Int) by omega]
        exact c3
      · walk_at "go"
        refine ⟨_, rfl, rfl, fun l hl => ?_⟩
        by_cases e : l = l'
        · subst e
          omega
        · exact f2 l (by omega)
    obtain ⟨rfl, f1⟩ := hM
    walk_at "go"
    exact q true H4 ⟨fun _ => hb.mpr ⟨hl', hnn, f1⟩, fun _ => rfl⟩ o1'
end
end SH
end

section
/-! #### the walk's words -/
local macro_rules | `(tactic| walk_at "ne0") => `(tactic| first
  | assumption
  | (refine Ne.symm ?_; assumption))
local macro_rules | `(tactic| walk_at "ne") => `(tactic| first
  | assumption
  | (refine Ne.symm ?_; assumption)
  | (refine' L2.ne_of_none ?gx (by assumption); (case gx => walk_at "hp"))
  | (refine' Ne.symm (L2.ne_of_none ?gx (by assumption)); (case gx => walk_at "hp")))
local macro_rules | `(tactic| walk_at "hp") => `(tactic| first
  | assumption
  | exact L2.upd_same
  | (refine' SH.upd_new ?gh (by assumption); (case gh => walk_at "hp"))
  | (refine' (L2.upd_ne ?gn).trans ?gh; (case gn => walk_at "ne0"); (case gh => walk_at "hp"))
  | (refine' SH.Off.at (by assumption) ?gn ?gh; (case gn => walk_at "nin"); (case gh => walk_at "hp")))
local macro_rules | `(tactic| walk_at "nin") => `(tactic| first
  | exact SH.nin_nil
  | (refine SH.nin_cons ?_ ?_; (· walk_at "ne0"); (· walk_at "nin")))
local macro_rules | `(tactic| walk_at "sq") => `(tactic| first
  | assumption
  | (apply L2.SqL.of; (· walk_at "hp"))
  | (apply L2.SqT.of; (· walk_at "hp"))
  | (refine' SH.seqT_new ?gx (by assumption); (case gx => walk_at "sq"))
  | (refine' SH.seqL_new ?gx (by assumption); (case gx => walk_at "sq"))
  | (refine' SH.Off.seqT (by assumption) ?gx; (case gx => walk_at "sq"))
  | (refine' SH.Off.seqL (by assumption) ?gy ?gx; (case gx => walk_at "sq"); (case gy => walk_at "nin")))
local macro_rules | `(tactic| walk_at "kd") => `(tactic| first
  | assumption | exact SH.KdV.int _ | exact SH.KdV.bl _ | exact SH.KdV.str _ | exact SH.KdV.non
  | (apply SH.KdV.tup; (· walk_at "sq")) | (apply SH.KdV.lst; (· walk_at "sq")))
/-- a way that cannot be -/
local macro_rules | `(tactic| walk_at "no") => `(tactic| (exfalso; first | assumption | omega | contradiction | (simp_all; done)))
/-- one step -/
local macro_rules | `(tactic| walk_at "g1") => `(tactic| with_reducible first
  | refine SH.g_var (by with_unfolding_all rfl) ?_ | refine SH.g_c ?_ | refine SH.g_op ?_ | refine SH.g_un ?_ | refine SH.g_I0 ?_ | refine SH.g_U ?_
  | refine SH.g_eqI ?_ | refine SH.g_neI ?_ | refine SH.g_eqS ?_ | refine SH.g_neS ?_
  | refine SH.g_test ?_ | refine SH.g_B ?_ | refine SH.g_isB ?_ | refine SH.g_and ?_ | refine SH.g_or ?_ | refine SH.g_not ?_ | refine SH.g_andV ?_ | refine SH.g_orV ?_ | refine SH.g_notV ?_ | refine SH.g_ifE ?_ | refine SH.g_chain ?_
  | refine SH.g_nil ?_ | refine SH.g_cons ?_ | refine SH.g_tup ?_ | refine SH.g_lst ?_ | refine SH.g_call ?_ | refine SH.g_fld ?_ | refine SH.g_meth ?_ | refine SH.g_make ?_ | refine SH.g_cb ?_ | refine SH.g_bm ?_
  | refine SH.g_seq ?_ | refine SH.g_asg ?_ | refine SH.g_name ?_ | refine SH.g_drop ?_ | refine SH.g_ret ?_ | refine SH.g_retN ?_ | refine SH.g_next ?_ | refine SH.g_brk ?_ | refine SH.g_cnt ?_ | refine SH.g_ifs ?_ | refine SH.g_par ?_ | refine SH.g_par2 ?_ | refine SH.g_fldS ?_ | refine SH.g_raise ?_ | refine SH.g_rs ?_
  | refine SH.g_sub ?_ | refine SH.g_yes ?_ | refine SH.g_sl ?_ | refine SH.g_noPart ?_ | refine SH.g_part ?_ | refine SH.g_intO ?_ | refine SH.g_dget ?_ | refine SH.g_dput ?_ | refine SH.g_forR ?_ | refine SH.g_forL ?_ | refine SH.g_forT ?_ | refine SH.g_lcR ?_ | refine SH.g_lcL ?_ | refine SH.g_lcT ?_ | refine SH.g_gcons ?_ | refine SH.g_gnil ?_
  | refine SH.br_t ?_ | refine SH.br_f ?_
  | refine SH.g_int ?_ | refine SH.g_abs ?_ | refine SH.g_max2 ?_ | refine SH.g_min2 ?_)
local macro_rules | `(tactic| walk_at "g2") => `(tactic| first
  | walk_at "g1"
  | ((with_reducible refine' SH.g_isiInt ?ga ?gz); (case ga => walk_at "kd"))
  | ((with_reducible refine' SH.g_isiBool ?ga ?gz); (case ga => walk_at "kd"))
  | ((with_reducible refine' SH.g_isiStr ?ga ?gz); (case ga => walk_at "kd"))
  | ((with_reducible refine' SH.g_isiTup ?ga ?gz); (case ga => walk_at "kd"))
  | ((with_reducible refine' SH.g_ixT ?ga ?gb ?gz); (case ga => walk_at "sq"); (case gb => rfl))
  | ((with_reducible refine' SH.g_ixL ?ga ?gb ?gz); (case ga => walk_at "sq"); (case gb => first | rfl | (apply SH.atI_refs; assumption)))
  | ((with_reducible refine SH.br_F ?_ ?_); (· decide +kernel)) | ((with_reducible refine SH.br_T ?_ ?_); (· decide +kernel)) | ((with_reducible refine SH.br_NF ?_ ?_); (· decide +kernel)) | ((with_reducible refine SH.br_NT ?_ ?_); (· decide +kernel))
  | ((with_reducible refine' SH.g_gtup ?ga ?gb ?gz); (case ga => walk_at "sq"); (case gb => rfl))
  | ((with_reducible refine' SH.g_lenT ?ga ?gz); (case ga => walk_at "sq"))
  | ((with_reducible refine' SH.g_lenL ?ga ?gz); (case ga => walk_at "sq"))
  | ((with_reducible refine SH.g_mkT (SH.sz rfl) ?_); intro _ _)
  | ((with_reducible refine SH.g_mkL (SH.sz rfl) ?_); intro _ _)
  | ((with_reducible refine SH.g_dnew ?_); intro _ _)
  | ((with_reducible refine' SH.g_tupL ?ga ?gz); (case ga => walk_at "sq"); intro _ _)
  | ((with_reducible refine' SH.g_lstL ?ga ?gz); (case ga => walk_at "sq"); intro _ _)
  | ((with_reducible refine' SH.g_lstT ?ga ?gz); (case ga => walk_at "sq"); intro _ _)
  | ((with_reducible refine' SH.g_dgR ?ga ?gb ?gz); (case ga => walk_at "hp"); (case gb => walk_at "dv"))
  | ((with_reducible refine' SH.g_fldR ?ga ?gb ?gc ?gd ?gz); (case ga => walk_at "hp"); (case gb => walk_at "cl"); (case gc => walk_at "na"); (case gd => walk_at "fv"))
  | ((with_reducible refine' SH.g_insR ?ga ?gb ?gz); (case ga => walk_at "hp"); (case gb => walk_at "fn"))
  | ((with_reducible refine' SH.g_setL ?ga ?gb ?gz); (case ga => walk_at "hp"); (case gb => rfl))
  | ((with_reducible refine SH.g_I ?_ ?_); (· walk_at "ci"))
  | ((with_reducible refine' SH.g_slL ?ga ?gz); (case ga => walk_at "sq"); intro _ _)
  | ((with_reducible refine' SH.g_cat ?ga ?gb ?gc ?gz); (case ga => walk_at "hp"); (case gb => walk_at "hp"); (case gc => walk_at "ls"); intro _ _))
/-- the side conditions of numbers: a divisor, a factor -/
local macro_rules | `(tactic| walk_at "ci") => `(tactic| first
  | (show _ ≠ _; omega) | (show _ < _; omega) | (constructor <;> omega) | (refine Or.inr ⟨?_, ?_⟩ <;> (show _ < _; omega)) | (refine Or.inl ⟨?_, ?_⟩ <;> (show _ < _; omega)) | (refine ⟨?_, ?_, ?_⟩ <;> decide))
local macro_rules | `(tactic| walk_at "ls") => `(tactic| first | (show _ ≤ _; exact Nat.le_trans (by assumption) (by decide)) | (show _ ≤ _; exact Nat.le_trans (by simp; omega) (by decide : 1000 ≤ sizeLine)))
local macro_rules | `(tactic| walk_at "dv") => `(tactic| rfl)
local macro_rules | `(tactic| walk_at "fv") => `(tactic| rfl)
local macro_rules | `(tactic| walk_at "fn") => `(tactic| rfl)
local macro_rules | `(tactic| walk_at "cl") => `(tactic| assumption)
local macro_rules | `(tactic| walk_at "na") => `(tactic| assumption)
local macro_rules | `(tactic| walk_at "go") => `(tactic| repeat walk_at "g2")
/-- a way is split -/
local macro_rules | `(tactic| walk_at "br") => `(tactic| with_reducible first
  | refine SH.br_d (fun _ => ?_) (fun _ => ?_) | refine SH.br_nd (fun _ => ?_) (fun _ => ?_) | refine SH.br_b (fun _ => ?_) (fun _ => ?_))
/-- all ways -/
local macro_rules | `(tactic| walk_at "all") => `(tactic| repeat' first | walk_at "g2" | (walk_at "br" <;> try (walk_at "no")))
/-- a truth value is the other -/
local macro_rules | `(tactic| walk_at "bq") => `(tactic| first | rfl | (simp_all; done) | (simp_all; omega) | (simp only [decide_eq_true_eq, decide_eq_false_iff_not, Bool.and_eq_true, Bool.or_eq_true] at *; omega))
/-- what was tracked is as it was -/
local macro_rules | `(tactic| walk_at "of") => `(tactic| first
  | assumption
  | exact SH.Off.refl _ _
  | (refine' SH.Off.new2 ?gx (by assumption); (case gx => walk_at "of"))
  | (refine' SH.Off.mut ?gx (by assumption); (case gx => walk_at "of"))
  | (refine' SH.Off.trans' ?gx (by assumption) ?gy; (case gy => (intro _ h; (first | exact h | (simp at h; done) | (simp at h ⊢; simp [h]; done)))); (case gx => walk_at "of")))
/-- kinds; parts of tuples; stars -/
local macro_rules | `(tactic| walk_at "g2") => `(tactic| first
  | (with_reducible first | refine SH.br_ntt ?_ | refine SH.br_ntf ?_ | refine SH.br_k ?_ | refine SH.br_nk ?_ | refine SH.g_star ?_ | refine SH.g_forR2 ?_ | refine SH.g_lcZ ?_ | refine SH.g_enL ?_)
  | ((with_reducible refine' SH.g_slA ?ga ?gz); (case ga => walk_at "sq"); intro _ _ _ _)
  | ((with_reducible refine' SH.g_app' ?ga ?gb ?gz); (case ga => walk_at "hp"); (case gb => walk_at "lt"); intro _ _ _)
  | ((with_reducible refine' SH.g_bml ?ga ?gz); (case ga => walk_at "sq"))
  | ((with_reducible refine' SH.g_popF ?ga ?gz); (case ga => walk_at "hp"); intro _ _ _)
  | (with_reducible first | refine SH.g_pnil ?_ | refine SH.g_pcons ?_ | (refine SH.g_disp ?_; intro _ _))
  | ((with_reducible refine' SH.g_kw ?gz))
  | ((with_reducible refine SH.g_kwR rfl ?_)))
local macro_rules | `(tactic| walk_at "lt") => `(tactic| (rw [PySem.sizeLine_eq]; omega))
namespace SH
open PySem PySem.Spec PyProof.Rows L2
/-! ### what the law's own reading of fishing tells -/
/-- a part: a tuple of flat values, or no tuple -/
inductive PtV (K : PySem.W.Frag) (H : Hp) : V → Option (List V) → Prop
  | tup {p : Addr} {xs : List V} (h : SqT K H p xs) (hf : xs.all flB = true) (hl : xs.length ≤ 1000) : PtV K H (.ref p) (some xs)
  | odd {v : V} {k : Kd} (h : KdV K H v k) (nk : k ≠ .tup) : PtV K H v none
theorem PtV.offN {K : PySem.W.Frag} {H H' : Hp} {v : V} {o : Option (List V)} (h : PtV K H v o) (f : Off [] H H') : PtV K H' v o := by
  cases h with
  | tup h hf hl => exact .tup (f.seqT h) hf hl
  | odd h nk => exact .odd (h.offN f) nk
def okPt (o : Option (List V)) : Prop := ∃ xs, o = some xs ∧ xs.length ≤ 200 ∧ xs.all natB = true
theorem CatA.pt {K : PySem.W.Frag} {H : Hp} {x : V} (h : CatA K H x) : ∃ o, PtV K H x o := by
  rcases h with ⟨p, xs, rfl, h1, h2, h3⟩ | ⟨k, h1, h2⟩
  · exact ⟨_, .tup h1 h2 h3⟩
  · exact ⟨_, .odd h1 h2⟩
theorem CatN.pt {K : PySem.W.Frag} {H : Hp} {x : V} {least : Int} (h : CatN K H x least) : ∃ o, PtV K H x o ∧ (okPt o → ∃ xs, o = some xs ∧ (xs.length : Int) < least) := by
  rcases h with ⟨p, xs, rfl, h1, h2, h3, h4⟩ | ⟨k, h1, h2⟩
  · refine ⟨_, .tup h1 h2 h3, fun ⟨ys, e, l1, l2⟩ => ?_⟩
    cases e
    refine ⟨xs, rfl, ?_⟩
    unfold catB at h4
    rw [l2, Bool.and_true, decide_eq_true (show (xs.length : Int) ≤ 200 by omega), Bool.and_true] at h4
    have := of_decide_eq_false h4
    omega
  · exact ⟨_, .odd h1 h2, fun ⟨ys, e, _⟩ => by cases e⟩
theorem FV.parts {K : PySem.W.Frag} {H : Hp} {g : List Nat} {s : Nat} {v : V} {o : Option (Int × Int)} (h : FV K H g s v o) : (∃ k, KdV K H v k ∧ k ≠ .tup ∧ o = none) ∨ (∃ t xs, v = .ref t ∧ SqT K H t xs ∧ xs.length ≠ 2 ∧ o = none) ∨
    ∃ t x y ox oy, v = .ref t ∧ SqT K H t [x, y] ∧ PtV K H x ox ∧ PtV K H y oy ∧ ((∃ zs cs, ox = some (gV zs) ∧ oy = some (gV cs) ∧ zs.length ≤ 200 ∧ 1 ≤ cs.length ∧ cs.length ≤ 200 ∧ o = fishO g s zs cs) ∨ (o = none ∧ (okPt ox → okPt oy → oy = some []))) := by
  rcases h with ⟨zs, cs, ⟨⟨t, p1, p2, rfl, ht, h1, h2⟩, l1, l2, l3⟩, eo⟩ | ⟨⟨t, x, y, rfl, ht, c1, c2, hb⟩ | ⟨t, xs, rfl, ht, hne⟩ | ⟨k, hk, nk⟩, eo⟩
  · exact .inr (.inr ⟨t, _, _, _, _, rfl, ht, .tup h1 (flB_gV zs) (by rw [gV_len]; omega), .tup h2 (flB_gV cs) (by rw [gV_len]; omega), .inl ⟨zs, cs, rfl, rfl, l1, l2, l3, eo⟩⟩)
  · rcases hb with hb | hb
    · obtain ⟨ox, h1, h2⟩ := hb.pt
      obtain ⟨oy, h3⟩ := c2.pt
      refine .inr (.inr ⟨t, _, _, ox, oy, rfl, ht, h1, h3, .inr ⟨eo, fun z => ?_⟩⟩)
      obtain ⟨xs, _, h4⟩ := h2 z
      omega
    · obtain ⟨oy, h1, h2⟩ := hb.pt
      obtain ⟨ox, h3⟩ := c1.pt
      refine .inr (.inr ⟨t, _, _, ox, oy, rfl, ht, h3, h1, .inr ⟨eo, fun _ z => ?_⟩⟩)
      obtain ⟨xs, e, h4⟩ := h2 z
      cases xs with
      | nil => exact e
      | cons a b =>
        rw [List.length_cons] at h4
        omega
  · exact .inr (.inl ⟨t, xs, rfl, ht, hne, eo⟩)
  · exact .inl ⟨k, hk, nk, eo⟩
theorem okPt_gV {cs : List Nat} (h : cs.length ≤ 200) : okPt (some (gV cs)) := ⟨_, rfl, by rw [gV_len]; exact h, natB_gV cs⟩
theorem natB_ints : ∀ {xs : List V}, xs.all natB = true → ∃ ns : List Int, xs = ns.map V.int
  | [], _ => ⟨[], rfl⟩
  | x :: xs, h => by
    rw [List.all_cons, Bool.and_eq_true] at h
    obtain ⟨ns, rfl⟩ := natB_ints h.2
    cases x with
    | int i => exact ⟨i :: ns, rfl⟩
    | _ => cases h.1
theorem ints_shapedT (ns : List Int) : SeqAt.shaped (.tuple (ns.map PyData.int)) = true := by
  unfold SeqAt.shaped
  rw [Bool.and_eq_true, decide_eq_true_eq]
  refine ⟨ints_lay ns, ?_⟩
  show PyData.depthAll (ns.map PyData.int) + 1 ≤ 64
  rw [ints_depth ns]
  omega
theorem g_eqInts {K : PySem.W.Frag} {H : Hp} {Q : VK} {u p : Addr} {ns : List Int} (h : SqT K H u (ns.map V.int)) (hp : H p = some (.tup [])) (q : Q (.bl ns.isEmpty) H) : rEqD K (.ref u) (.ref p) H Q :=
  g_eqD (.tup h (ints_dpAll ns)) (.tup (.of hp) .nil) (ints_shapedT ns) rfl (by rw [eqv_emptyT]; cases ns <;> exact q)
def spHFish (K : PySem.W.Frag) : Sp := fun vs H Q _ => ∃ p g s x o, vs = [.ref p, .int ((s : Nat) : Int), x] ∧ SqT K H p (gV g) ∧ GrOk g ∧ s < g.length ∧ FV K H g s x o ∧ ∀ u H', oP K H' u o → Off [] H H' → Q u H'
section
variable {P : Program} {w : World} {K : PySem.W.Frag} {mg : Str → Option Value} {base : Heap}
set_option maxHeartbeats 1000000 in
theorem ok_law_h_fish (T : Txt P w K mg) : DefOk P w K mg base "_law_h_fish" 1 ["growth", "start", "value"] (spHFish K) := by
  refine T.d_law_h_fish.ok sc_law_h_fish (fun _ _ _ _ _ _ us hl => match us, hl with | [_, _, _], _ => rfl) (fun vs H Q E h => ?_) (fun f cdv A outer s H vs Q E hr h => ?_)
  · obtain ⟨p, g, s, x, o, rfl, _⟩ := h
    rfl
  · obtain ⟨p, g, s, x, o, rfl, hp, G, hs, hv, q⟩ := h
    have B := T.blt
    have hu := hu_of hr
    refine ⟨_, (pss_cons (ps_if (PW.pt (pw_or (pt_not (pt_val (pe_callB (call_isiK' (K := K) rfl) (by rfl) B.b_isinstance (by decide +kernel) (pa_cons (pv 2) (pa_cons (pe_bltn (v := .ty "tuple") rfl B.b_tuple (by decide +kernel) rfl) pa_nil))) (by intro _; rfl))) (pw_or1 (pt_cmpR op_ne (pe_callB (c_lenK (K := K) rfl) (by rfl) B.b_len PySem.boot_len (pa_cons (pv 2) pa_nil)) pe_int (nomark _)))))
    (pss_one (ps_ret pe_non))
    pss_nil)
  (pss_cons (ps_for (passes_of rfl) rfl (pi_tupK (K := K) rfl (pv 2)) (pg_name (i := 3) sc_law_h_fish.nd rfl (by first | exact Or.inl rfl | exact Or.inr rfl))
    (pss_one (ps_if (PW.pt (pw_or (pt_not (pt_val (pe_callB (call_isiK' (K := K) rfl) (by rfl) B.b_isinstance (by decide +kernel) (pa_cons (pv 3) (pa_cons (pe_bltn (v := .ty "tuple") rfl B.b_tuple (by decide +kernel) rfl) pa_nil))) (by intro _; rfl))) (pw_or (pt_cmpR op_gt (pe_callB (c_lenK (K := K) rfl) (by rfl) B.b_len PySem.boot_len (pa_cons (pv 3) pa_nil)) pe_int (nomark _)) (pw_or1 (pt_cmpR (op_neDK (K := K) rfl hr.units) (pe_lc (own := [("one", 7)]) rfl sc_law_h_fish.nd (pi_tupK (K := K) rfl (pv 3)) (blkOk_by (own := [("one", 7)]) (N := ["growth", "start", "value", "part", "stock", "stocks", "catch", "one"]) (sc := defScope s_law_h_fish) (by decide +kernel)) (fun _ _ _ _ _ => (pg_name (i := 7) sc_law_h_fish.nd rfl (by first | exact Or.inl rfl | exact Or.inr rfl))) (fun _ _ _ _ _ => (pts_one (PW.pt (pw_or (pt_not (pt_val (pe_callB (call_isiK' (K := K) rfl) (by rfl) B.b_isinstance (by decide +kernel) (pa_cons (pv 7) (pa_cons (pe_bltn (v := .ty "int") rfl B.b_int (by decide +kernel) rfl) pa_nil))) (by intro _; rfl))) (pw_or (pt_val (pe_callB (call_isiK' (K := K) rfl) (by rfl) B.b_isinstance (by decide +kernel) (pa_cons (pv 7) (pa_cons (pe_bltn (v := .ty "bool") rfl B.b_bool (by decide +kernel) rfl) pa_nil))) (by intro _; rfl)) (pw_or1 (pt_cmpR op_lt (pv 7) pe_int (nomark _)))))))) (fun _ _ _ _ _ => pe_int)) (pe_lst pa_nil) (nomark _))))))
    (pss_one (ps_ret pe_non))
    pss_nil)))
  (pss_cut (ps_if (pt_cmpR (op_eqDK (K := K) rfl hr.units) (pe_ix (ix_tupK (K := K) rfl) (pv 2) pe_int (fun _ _ => rfl)) (pe_tup pa_nil) (nomark _))
    (pss_one (ps_ret pe_non))
    pss_nil)
  (pss_cons (ps_par (i := 4) (j := 5) (by rfl) sc_law_h_fish.nd rfl rfl (by decide) rfl rfl (pa_cons (pv 1) (pa_cons (pe_lst pa_nil) pa_nil)) (by rfl))
  (pss_cons (ps_for (passes_of rfl) rfl (pi_tupK (K := K) rfl (pe_op (op_catAK (K := K) rfl) (pe_ix (ix_tupK (K := K) rfl) (pv 2) pe_int (fun _ _ => rfl)) (pe_ix (ix_tupK (K := K) rfl) (pv 2) pe_int (fun _ _ => rfl)))) (pg_name (i := 6) sc_law_h_fish.nd rfl (by first | exact Or.inl rfl | exact Or.inr rfl))
    (pss_cons (ps_expr (pe_bmK (K := K) rfl PySem.F.plainAttrs_list PySem.F.slot_list_append PySem.F.type_list_append mt_append (pv 5) (pa_cons (pv 4) pa_nil)))
  (pss_cons (ps_if (pt_cmpR op_gt (pv 6) (pv 4) (nomark _))
    (pss_one (ps_ret pe_non))
    pss_nil)
  (pss_one (ps_set (i := 4) sc_law_h_fish.nd rfl (by first | exact Or.inl rfl | exact Or.inr rfl) (pe_ix (ix_tupK (K := K) rfl) (pv 0) (pe_op op_sub (pv 4) (pv 6)) (fun _ _ => rfl)))))))
  (pss_one (ps_ret (pe_ifExp (pt_cmpR op_ge (pv 4) (pe_ix (ix_listK (K := K) rfl) (pv 5) (pe_callB (c_lenK (K := K) rfl) (by rfl) B.b_len PySem.boot_len (pa_cons (pe_ix (ix_tupK (K := K) rfl) (pv 2) pe_int (fun _ _ => rfl)) pa_nil)) (fun _ _ => rfl)) (nomark _)) (pe_tup (pa_cons (pe_callB (cr_sumT (K := K) rfl rfl) (by rfl) B.b_sum (by decide +kernel) (pa_cons (pe_ix (ix_tupK (K := K) rfl) (pv 2) pe_int (fun _ _ => rfl)) pa_nil)) (pa_cons (pe_callB (c_lenK (K := K) rfl) (by rfl) B.b_len PySem.boot_len (pa_cons (pe_ix (ix_tupK (K := K) rfl) (pv 2) pe_int (fun _ _ => rfl)) pa_nil)) pa_nil))) pe_non)))))))), ?_⟩
    have n1 := G.n1
    have no : o = none → ∀ H', Off [] H H' → Q .non H' := fun e H' oo => q .non H' (by rw [e]; rfl) oo
    rcases hv.parts with ⟨k, hk, nk, eo⟩ | ⟨t, xs, rfl, ht, hne, eo⟩ | ⟨t, x1, x2, ox, oy, rfl, ht, hx, hy, hcase⟩
    · have ek : (k == Kd.tup) = false := by cases k <;> first | rfl | exact absurd rfl nk
      walk_at "go"
      rw [ek]
      walk_at "go"
      exact no eo H (.refl _ _)
    · have hk : KdV K H (.ref t) .tup := .tup ht
      walk_at "go"
      refine br_nd (fun c1 => ?_) (fun c1 => absurd c1 (by omega))
      walk_at "go"
      exact no eo H (.refl _ _)
    have hk : KdV K H (.ref t) .tup := .tup ht
    walk_at "go"
    refine br_NT (show ((2 : Nat) : Int) = 2 from rfl) ?_
    walk_at "go"
    have hbx : ¬ okPt ox → o = none := fun z => by
      rcases hcase with ⟨zs, cs, rfl, _, l1, _⟩ | ⟨e, _⟩
      · exact absurd (okPt_gV l1) z
      · exact e
    have hby : ¬ okPt oy → o = none := fun z => by
      rcases hcase with ⟨zs, cs, _, rfl, _, _, l1, _⟩ | ⟨e, _⟩
      · exact absurd (okPt_gV l1) z
      · exact e
    refine forT_mk (fun i σ H1 => ∃ x3, σ = [some (.ref p), some (.int (s : Int)), some (.ref t), x3, none, none, none, none] ∧ Off [] H H1 ∧ (1 ≤ i → okPt ox) ∧ (2 ≤ i → okPt oy)) ht
      ⟨_, rfl, .refl _ _, fun h => absurd h (by omega), fun h => absurd h (by omega)⟩ (fun i σ H1 hi hP => hP.choose_spec.2.1.seqT ht) (fun i z σ H1 hi hP => ?_) (fun σ H1 hP => ?_)
    · obtain ⟨x3, rfl, o1, f1, f2⟩ := hP
      obtain ⟨oz, hz, hb, hc⟩ : ∃ oz, PtV K H z oz ∧ (¬ okPt oz → o = none) ∧ (okPt oz → (1 ≤ i + 1 → okPt ox) ∧ (2 ≤ i + 1 → okPt oy)) := by
        match i, hi, f1 with
        | 0, hi, f1 => cases hi; exact ⟨ox, hx, hbx, fun h => ⟨fun _ => h, fun h => absurd h (by omega)⟩⟩
        | 1, hi, f1 => cases hi; exact ⟨oy, hy, hby, fun h => ⟨fun _ => f1 (by omega), fun _ => h⟩⟩
        | i + 2, hi, f1 => cases hi
      have hz1 := hz.offN o1
      cases hz1 with
      | odd hkz nk =>
        rename_i k
        have ek : (k == Kd.tup) = false := by cases k <;> first | rfl | exact absurd rfl nk
        walk_at "go"
        rw [ek]
        walk_at "go"
        exact no (hb fun ⟨xs, e, _⟩ => by cases e) H1 o1
      | tup hzt hzf hzl =>
        rename_i pz xs
        have hkz : KdV K H1 (.ref pz) .tup := .tup hzt
        walk_at "go"
        refine br_d (fun c1 => ?_) (fun c1 => ?_)
        · walk_at "go"
          refine no (hb fun ⟨ys, e, e2, _⟩ => ?_) H1 o1
          cases e
          omega
        walk_at "go"
        refine lcT_pure (fun x => .int 1) (fun x => !natB x) hzt (by rw [sizeLine_eq]; omega) (fun _ => rfl) (fun x H2 hx2 o2 M kk => ?_) (fun x H2 hx2 hc2 o2 M kk => ?_) (fun D H2 hD o2 e4 => ?_)
        · have hfx := List.all_eq_true.mp hzf x hx2
          cases x with
          | int n =>
            walk_at "go"
            rw [show (!(Kd.int == Kd.int || Kd.int == Kd.bl)) = false from rfl]
            walk_at "go"
            rw [show (Kd.int == Kd.bl) = false from rfl]
            walk_at "go"
            have e : decide (n < 0) = (!natB (.int n)) := by
              show _ = !decide (0 ≤ n)
              by_cases c : n < 0
              · rw [decide_eq_true c, decide_eq_false (by omega)]; rfl
              · rw [decide_eq_false c, decide_eq_true (by omega)]; rfl
            rw [e]
            exact kk _ (.refl _ _)
          | str z =>
            walk_at "go"
            rw [show (!(Kd.str == Kd.int || Kd.str == Kd.bl)) = true from rfl]
            walk_at "go"
            exact kk _ (.refl _ _)
          | bl z =>
            walk_at "go"
            rw [show (!(Kd.bl == Kd.int || Kd.bl == Kd.bl)) = false from rfl]
            walk_at "go"
            exact kk _ (.refl _ _)
          | non =>
            walk_at "go"
            rw [show (!(Kd.non == Kd.int || Kd.non == Kd.bl)) = true from rfl]
            walk_at "go"
            exact kk _ (.refl _ _)
          | _ => cases hfx
        · walk_at "go"
          exact kk _ (.refl _ _)
        have efl : (xs.filter fun x => !natB x).map (fun _ => V.int 1) = ((xs.filter fun x => !natB x).map fun _ => (1 : Int)).map V.int := by
          rw [List.map_map]
          rfl
        rw [efl] at e4
        walk_at "go"
        rename_i pE hE
        have o1' := (o1.trans o2).new2 (o := .lst []) hE
        refine g_neInts (upd_new e4 hE) upd_same ?_
        walk_at "go"
        refine br_b (fun c2 => ?_) (fun c2 => ?_)
        · walk_at "go"
          refine no (hb fun ⟨ys, e, _, e3⟩ => ?_) _ o1'
          cases e
          have : (xs.filter fun x => !natB x) = [] := by
            rw [List.filter_eq_nil_iff]
            intro n hn
            rw [List.all_eq_true.mp e3 n hn]
            decide
          rw [this] at c2
          cases c2
        · walk_at "go"
          have c3 : (xs.filter fun x => !natB x) = [] := by
            cases h : (xs.filter fun x => !natB x) with
            | nil => rfl
            | cons x y => rw [h] at c2; cases c2
          have ok : okPt (some xs) := ⟨xs, rfl, by omega, List.all_eq_true.mpr fun x hx => by
            have := List.filter_eq_nil_iff.mp c3 x hx
            cases h : natB x with
            | true => rfl
            | false => rw [h] at this; exact absurd rfl this⟩
          exact ⟨_, rfl, o1', hc ok⟩
    obtain ⟨x3, rfl, o1, f1, f2⟩ := hP
    have ht1 := o1.seqT ht
    obtain ⟨xs, rfl, lx, nx⟩ := f1 (Nat.le_succ 1)
    obtain ⟨ys, rfl, ly, ny⟩ := f2 (Nat.le_refl 2)
    have hx1 := hx.offN o1
    have hy1 := hy.offN o1
    cases hx1 with
    | tup hx1 _ _ =>
    rename_i p1 _ _
    cases hy1 with
    | tup hy1 _ _ =>
    rename_i p2 _ _
    obtain ⟨ns, eys⟩ := natB_ints ny
    walk_at "go"
    refine g_cut (fun σ H2 => σ = [some (.ref p), some (.int (s : Int)), some (.ref t), x3, none, none, none, none] ∧ Off [] H1 H2 ∧ ∃ zs cs, xs = gV zs ∧ ys = gV cs ∧ zs.length ≤ 200 ∧ 1 ≤ cs.length ∧ cs.length ≤ 200 ∧ o = fishO g s zs cs) ?_ (fun σ H2 hM => ?_)
    · walk_at "go"
      rename_i pE hE
      refine g_eqInts (ns := ns) (by rw [← eys]; exact seqT_new hy1 hE) upd_same ?_
      walk_at "go"
      refine br_b (fun c1 => ?_) (fun c1 => ?_)
      · walk_at "go"
        refine no ?_ _ (o1.new2 hE)
        rcases hcase with ⟨zs, cs, _, e2, _, l2, _⟩ | ⟨e, _⟩
        · cases ns with
          | nil =>
            subst eys
            have := congrArg (fun x => (x.getD []).length) e2
            simp only [Option.getD_some, gV_len, List.map_nil, List.length_nil] at this
            omega
          | cons a b => cases c1
        · exact e
      · walk_at "go"
        refine ⟨rfl, .new hE, ?_⟩
        rcases hcase with ⟨zs, cs, e1, e2, l1, l2, l3, e⟩ | ⟨_, e⟩
        · exact ⟨zs, cs, Option.some.inj e1, Option.some.inj e2, l1, l2, l3, e⟩
        · have := Option.some.inj (e ⟨xs, rfl, lx, nx⟩ ⟨ys, rfl, ly, ny⟩)
          subst this
          cases ns with
          | nil => cases c1
          | cons a b => cases eys
    obtain ⟨rfl, o2, zs, cs, rfl, rfl, l1, l2, l3, eo⟩ := hM
    have o12 := o1.trans o2
    have ht2 := o2.seqT ht1
    have hx2 := o2.seqT hx1
    have hy2 := o2.seqT hy1
    walk_at "go"
    rename_i L hL
    refine g_catA (seqT_new hx2 hL) (seqT_new hy2 hL) (by rw [gV_len, gV_len, sizeLine_eq]; omega) fun pr H3 hpr o3 => ?_
    have epr : gV zs ++ gV cs = gV (zs ++ cs) := by
      unfold gV gI
      rw [List.map_append, List.map_append]
    rw [epr] at hpr
    have hL3 : H3 L = some (.lst []) := o3.at nin_nil upd_same
    have o02 := (o12.new2 (o := .lst []) hL).trans o3
    walk_at "go"
    have hLn : H L = none := o12.back hL
    refine forT_mk (fun i σ H4 => ∃ x6, σ = [some (.ref p), some (.int (s : Int)), some (.ref t), x3, some (.int ((run g s ((zs ++ cs).take i) : Nat) : Int)), some (.ref L), x6, none] ∧ H4 L = some (.lst (gV ((List.range i).map fun k => run g s ((zs ++ cs).take k)))) ∧ Off [L] H3 H4 ∧ okR g s ((zs ++ cs).take i)) hpr
      ⟨_, rfl, hL3, .refl _ _, trivial⟩ (fun i σ H4 hi hP => hP.choose_spec.2.2.1.seqT hpr) (fun i z σ H4 hi hP => ?_) (fun σ H4 hP => ?_)
    · obtain ⟨x6, rfl, f1, f2, ok⟩ := hP
      obtain ⟨c, hc, rfl⟩ := gV_elem hi
      have et : (zs ++ cs).take (i + 1) = (zs ++ cs).take i ++ [c] := by rw [List.take_add_one, hc]; rfl
      have hii := (List.getElem?_eq_some_iff.mp hc).1
      rw [List.length_append] at hii
      have hr1 := G.run_lt ((zs ++ cs).take i) hs
      have o04 : Off [] H H4 := o02.mutA f2 hLn
      have hp4 := o04.seqT hp
      have hlen : (gV ((List.range i).map fun k => run g s ((zs ++ cs).take k))).length ≤ 1000 := by rw [gV_len, List.length_map, List.length_range]; omega
      rw [et]
      walk_at "go"
      rename_i H5 e5 o5
      refine br_d (fun c1 => ?_) (fun c1 => ?_)
      · walk_at "go"
        refine no ?_ _ (o04.mutA o5 hLn)
        rw [eo]
        unfold fishO
        refine if_neg fun z => ?_
        have okc : okR g s (zs ++ cs) := (okR_app _).mpr ⟨z.1, z.2.1⟩
        have eall : zs ++ cs = (zs ++ cs).take i ++ c :: (zs ++ cs).drop (i + 1) := by
          have hc2 := hc
          rw [List.getElem?_eq_getElem (by rw [List.length_append]; exact hii)] at hc2
          rw [← Option.some.inj hc2, ← List.drop_eq_getElem_cons, List.take_append_drop]
        rw [eall] at okc
        have := ((okR_app _).mp okc).2.1
        omega
      · have esub : ((run g s ((zs ++ cs).take i) : Nat) : Int) - (c : Int) = ((run g s ((zs ++ cs).take i) - c : Nat) : Int) := by omega
        walk_at "go"
        rw [esub]
        refine g_ixT (o5.seqT hp4) (gV_at (by omega)) ?_
        walk_at "go"
        refine ⟨some (.int (c : Int)), ?_, ?_, f2.trans o5, (okR_app _).mpr ⟨ok, by omega, trivial⟩⟩
        · rw [run_app]
          rfl
        · rw [e5, List.range_succ, List.map_append]
          exact congrArg (fun z => some (HO.lst z)) (gV_snoc _ _).symm
    obtain ⟨x6, rfl, f1, f2, ok⟩ := hP
    rw [gV_len, List.take_length] at ok ⊢
    rw [gV_len] at f1
    have o04 : Off [] H H4 := o02.mutA f2 hLn
    have ht4 := f2.seqT (o3.seqT (seqT_new ht2 hL))
    have hx4 := f2.seqT (o3.seqT (seqT_new hx2 hL))
    have hy4 := f2.seqT (o3.seqT (seqT_new hy2 hL))
    obtain ⟨ok1, ok2⟩ := (okR_app _).mp ok
    have hr1 := G.run_lt zs hs
    have hcs := okR_all G cs hr1 ok2
    have ezl : (gV zs).length = zs.length := gV_len zs
    have ecl : (gV cs).length = cs.length := gV_len cs
    have hat : atI (gV ((List.range (zs ++ cs).length).map fun k => run g s ((zs ++ cs).take k))) (((gV zs).length : Nat) : Int) = some (.int ((run g s zs : Nat) : Int)) := by
      rw [ezl, gV_at (by rw [List.length_map, List.length_range, List.length_append]; omega)]
      unfold gAt
      rw [List.getD_eq_getElem?_getD, List.getElem?_map, List.getElem?_range (by rw [List.length_append]; omega)]
      show some (V.int ((run g s ((zs ++ cs).take zs.length) : Nat) : Int)) = _
      rw [List.take_left]
    walk_at "go"
    refine g_ixL (.of f1) hat ?_
    walk_at "go"
    refine br_d (fun c1 => ?_) (fun c1 => ?_)
    rotate_left 1
    · walk_at "go"
      refine no ?_ _ o04
      rw [eo]
      unfold fishO
      refine if_neg fun z => ?_
      have := z.2.2
      rw [run_app] at c1
      omega
    have en : o = some (sumN cs, (cs.length : Int)) := by
      rw [eo]
      unfold fishO
      rw [run_app] at c1
      exact if_pos ⟨ok1, ok2, by omega⟩
    walk_at "go"
    refine ⟨p2, gI cs, rfl, hy4, fun n hn => ?_, by unfold gI; rw [List.length_map]; omega, ?_⟩
    · obtain ⟨c, hc, rfl⟩ := List.mem_map.mp hn
      have := hcs c hc
      omega
    rw [sumN_gI]
    walk_at "go"
    rename_i pz hz
    refine q _ _ ?_ (o04.new2 hz)
    rw [en, ← ecl]
    exact ⟨pz, rfl, .of upd_same⟩
end
end SH
end

section
namespace SH
open PySem PySem.Spec PyProof.Rows L2
/-! #### t[::-1] -/
section
variable {prog : Program} {w : World} {A : Around} {E : Value → Shared → Prop} {s : Shared}
theorem adjust_rev (n : Nat) : Builtin.Slice.sliceAdjust none none (-1) (n : Int) = ((n : Int) - 1, -1) := rfl
theorem places_rev (n : Nat) : Builtin.Slice.slicePlaces ((n : Int) - 1) (-1) (-1) = n := by
  unfold Builtin.Slice.slicePlaces
  rw [if_neg (by decide)]
  by_cases h : (n : Int) - 1 > -1
  · rw [if_pos h, show (-(-1) : Int) = 1 from rfl, Int.ediv_one]
    omega
  · rw [if_neg h]
    omega
theorem pick_rev (xs : Array Value) : ((List.range xs.size).filterMap fun (k : Nat) => xs[((xs.size : Int) - 1 + (k : Int) * (-1)).toNat]?).toArray = xs.toList.reverse.toArray := by
  have e : (fun (k : Nat) => xs[((xs.size : Int) - 1 + (k : Int) * (-1)).toNat]?) = (xs[·]?) ∘ fun k => xs.size - 1 - k := by
    funext k
    show _ = xs[xs.size - 1 - k]?
    have : ((xs.size : Int) - 1 + (k : Int) * (-1)).toNat = xs.size - 1 - k := by omega
    rw [this]
  rw [e, ← List.filterMap_map, PySem.W.krv_range, List.filterMap_reverse, PySem.W.krv_all]
theorem sliceApplied_rev {sl : Addr} {vl vu vs : Value} {n : Nat} {Q : Int × Int × Nat → Shared → Prop} (hs : s.heap.IsSliceOf sl vl vu vs) (pl : IsPart vl none) (pu : IsPart vu none) (ps : IsPart vs (some (-1)))
    (h : Q ((n : Int) - 1, -1, n) s) : wpAny (model prog w) A (Builtin.Slice.sliceApplied (.ref sl) (pure (n : Int))) Q E s := by
  obtain ⟨os, hos, hcs, hds⟩ := id hs
  unfold Builtin.Slice.sliceApplied Builtin.Slice.sliceFields
  refine wpAny_bind (wpAny_bind (wpAny_field hos hds (x := vl) rfl (wpAny_bind (wpAny_field hos hds (x := vu) rfl (wpAny_bind (wpAny_field hos hds (x := vs) rfl (wpAny_pure ?_)))))))
  refine wpAny_bind (HT.slicePart_ ps ?_)
  show wpAny _ _ (if ((-1 : Int) == 0) = true then _ else _) _ _ s
  rw [if_neg (by decide)]
  refine wpAny_bind (HT.slicePart_ pl (wpAny_bind (HT.slicePart_ pu (wpAny_bind (wpAny_pure ?_)))))
  show wpAny _ _ (match Builtin.Slice.sliceAdjust none none (-1) (n : Int) with | (lo, hi) => pure (lo, (-1 : Int), Builtin.Slice.slicePlaces lo hi (-1))) _ _ s
  rw [adjust_rev n]
  show wpAny _ _ (pure ((n : Int) - 1, (-1 : Int), Builtin.Slice.slicePlaces ((n : Int) - 1) (-1) (-1))) _ _ s
  rw [places_rev]
  exact wpAny_pure h
theorem getItem_tuple_rev {t sl : Addr} {items : Array Value} {vl vu vs : Value} {Q : Value → Shared → Prop} (ht : IsTup s.heap t items) (hs : s.heap.IsSliceOf sl vl vu vs) (pl : IsPart vl none) (pu : IsPart vu none) (ps : IsPart vs (some (-1)))
    (h : Q (.ref s.heap.objs.size) { s with heap := s.heap.push { cls := .type "tuple", data := .seq items.toList.reverse.toArray } })
    (hsz : items.size ≤ sizeLine) : wpAny (model prog w) A (getItem (.ref t) (.ref sl)) Q E s := by
  have htake : sizeOk (.seq items.toList.reverse.toArray) := by
    show items.toList.reverse.toArray.size ≤ sizeLine
    rw [List.size_toArray, List.length_reverse, Array.length_toList]
    exact hsz
  obtain ⟨os, hos, hcs, hds⟩ := id hs
  have hTs : s.TypeIs (.ref sl) "slice" := ⟨os, hos, hcs⟩
  unfold getItem
  try with_reducible refine wpAny_holding ?_
  first | refine wpAny_bind (wpAny_pure ?_) | skip
  refine wpAny_bind (wpAny_sequenceKey ht.typeIs (by decide) ?_)
  refine wpAny_bind (wpAny_callSpecial?_slot (name := Str.ofString "__getitem__") ht.typeIs PyProof.Rows.slot_tuple_getitem
    (wpAny_call_entry PyProof.Rows.slot_tuple_getitem ht.typeIs entry_tuple_getitem ?_ (args_tuple_getitem _ _)))
  show wpAny _ _ (Builtin.Tuple.tupleItemsOf (.ref t) >>= _) _ _ s
  refine wpAny_bind (PyProof.Rows.tupleItemsOf_ ht ?_)
  refine wpAny_bind (wpAny_typeOf hTs ?_)
  rw [if_pos (by decide)]
  refine wpAny_bind (sliceApplied_rev hs pl pu ps ?_)
  have hno : ¬ ((((items.size : Int) - 1) == 0 && (-1 : Int) == 1 && items.size == items.size) = true) := by
    intro q
    rw [Bool.and_eq_true, Bool.and_eq_true] at q
    exact absurd q.1.2 (by decide)
  show wpAny _ _ (if (((items.size : Int) - 1) == 0 && (-1 : Int) == 1 && items.size == items.size) = true then _ else _) _ _ s
  rw [if_neg hno, pick_rev]
  first
    | exact wpAny_bind (m := Builtin.Tuple.tupleExact _) (wpAny_newObj_type (wpAny_pure ⟨_, rfl, wpAny_pure h⟩) htake)
    | exact wpAny_bind (m := Builtin.Tuple.tupleExact _) (wpAny_newObj_type (wpAny_bind (wpAny_pure (wpAny_pure ⟨_, rfl, wpAny_pure h⟩))) htake)
    | exact wpAny_bind (wpAny_bind (m := Builtin.Tuple.tupleExact _) (wpAny_newObj_type (wpAny_pure (wpAny_pure ⟨_, rfl, wpAny_pure h⟩)) htake))
    | exact wpAny_bind (wpAny_bind (m := Builtin.Tuple.tupleExact _) (wpAny_newObj_type (wpAny_pure ⟨_, rfl, wpAny_pure h⟩) htake))
end
def rRevT (K : PySem.W.Frag) : V → Hp → VK → Prop := fun x H1 Q => ∃ a xs, x = .ref a ∧ SqT K H1 a xs ∧ ∀ p, H1 p = none → Q (.ref p) (upd H1 p (.tup xs.reverse))
def tRevT (K : PySem.W.Frag) (te : TE) : TE := fun σ H Q => te σ H fun x H1 => rRevT K x H1 Q
theorem pe_revT {X : Cx} {e : Expr} {te : TE} {k : Nat} {p1 p2 p3 pos : Pos} (he : PE X e te) : PE X (.Subscript e (.Slice none none (some (.UnaryOp .USub (.Constant (.int 1) k p1) p2)) p3) pos) (tRevT X.K te) := by
  refine ⟨fun pins s σ H Q I h => ?_⟩
  refine Subscript_ (thn (he.run pins s σ H _ I h) fun v s1 ⟨x, H1, I1, r1, q1⟩ => ?_)
  obtain ⟨a, xs, ex, hx, q⟩ := q1
  subst ex
  cases r1
  have hst : PO X (some (.UnaryOp .USub (.Constant (.int 1) k p1) p2)) (tPart (tUn (rU fun i => .int (-i)) (tC (.int 1)))) := po_some (pe_un un_neg pe_int)
  refine wpAny_Slice (thn (po_none.run pins s1 σ H1 (fun o H2 => o = none ∧ H2 = H1) I1 ⟨rfl, rfl⟩) fun vl s2 ⟨l, H2, I2, pl, el, e2⟩ => ?_)
  subst el e2
  refine thn (po_none.run pins s2 σ H2 (fun o H3 => o = none ∧ H3 = H2) I2 ⟨rfl, rfl⟩) fun vu s3 ⟨u, H3, I3, pu, eu, e3⟩ => ?_
  subst eu e3
  refine thn (hst.run pins s3 σ H3 (fun o H4 => o = some (-1) ∧ H4 = H3) I3 ⟨1, rfl, -1, rfl, rfl, rfl⟩) fun vs s4 ⟨o, H4, I4, ps, eo, e4⟩ => ?_
  subst eo e4
  have I5 : Inv X pins σ H4 { s4 with heap := s4.heap.push { cls := .type "slice", data := .fields #[vl, vu, vs] } } := I4.kept (t' := s4.toks) fun b ob q => Heap.get?_push_of_some _ q
  obtain ⟨its, r, ht, hz⟩ := I5.tuple hx
  have hlen := r.length
  show wpAny (model X.prog X.w) X.A (subscriptTail e (.Slice none none (some (.UnaryOp .USub (.Constant (.int 1) k p1) p2)) p3) (.ref a) (.ref s4.heap.objs.size)) (EP X pins σ Q) X.xe { s4 with heap := s4.heap.push { cls := .type "slice", data := .fields #[vl, vu, vs] } }
  refine tail_any (ops := [.ref a, .ref s4.heap.objs.size]) ht.typeIs (PyProof.Rows.slot_tuple_getitem.lookup) ?_ (by with_unfolding_all rfl)
  refine getItem_tuple_rev ht (Heap.IsSliceOf.new _ vl vu vs) pl pu ps ?_ (by rw [List.size_toArray]; omega)
  refine ⟨.ref _, _, I5.laid (t' := s4.toks) (o := .tup xs.reverse) (fun b ob q => Heap.get?_push_of_some _ q) (Nat.le_refl _) ?_, rfl, q _ (I5.hok.fresh (Nat.le_refl _))⟩
  exact ⟨by rw [List.length_reverse]; exact hz, _, r.reverse, IsTup.new _ _⟩
theorem pe_revTK {X : Cx} {K : PySem.W.Frag} {e : Expr} {te : TE} {k : Nat} {p1 p2 p3 pos : Pos} (hK : X.K = K) (he : PE X e te) : PE X (.Subscript e (.Slice none none (some (.UnaryOp .USub (.Constant (.int 1) k p1) p2)) p3) pos) (tRevT K te) := by
  subst hK
  exact pe_revT he
section
variable {K : PySem.W.Frag} {σ : L2.St} {H : Hp} {Q : VK} {te : TE} {a : Addr} {xs : List V}
theorem g_revTE (q : te σ H fun x H1 => rRevT K x H1 Q) : tRevT K te σ H Q := q
theorem g_revT (h : SqT K H a xs) (q : ∀ p, H p = none → Q (.ref p) (upd H p (.tup xs.reverse))) : rRevT K (.ref a) H Q := ⟨a, xs, rfl, h, q⟩
end
end SH
end

section
/-! #### the walk's words -/
local macro_rules | `(tactic| walk_at "ne0") => `(tactic| first
  | assumption
  | (refine Ne.symm ?_; assumption))
local macro_rules | `(tactic| walk_at "ne") => `(tactic| first
  | assumption
  | (refine Ne.symm ?_; assumption)
  | (refine' L2.ne_of_none ?gx (by assumption); (case gx => walk_at "hp"))
  | (refine' Ne.symm (L2.ne_of_none ?gx (by assumption)); (case gx => walk_at "hp")))
local macro_rules | `(tactic| walk_at "hp") => `(tactic| first
  | assumption
  | exact L2.upd_same
  | (refine' SH.upd_new ?gh (by assumption); (case gh => walk_at "hp"))
  | (refine' (L2.upd_ne ?gn).trans ?gh; (case gn => walk_at "ne0"); (case gh => walk_at "hp"))
  | (refine' SH.Off.at (by assumption) ?gn ?gh; (case gn => walk_at "nin"); (case gh => walk_at "hp")))
local macro_rules | `(tactic| walk_at "nin") => `(tactic| first
  | exact SH.nin_nil
  | (refine SH.nin_cons ?_ ?_; (· walk_at "ne0"); (· walk_at "nin")))
local macro_rules | `(tactic| walk_at "sq") => `(tactic| first
  | assumption
  | (apply L2.SqL.of; (· walk_at "hp"))
  | (apply L2.SqT.of; (· walk_at "hp"))
  | (refine' SH.seqT_new ?gx (by assumption); (case gx => walk_at "sq"))
  | (refine' SH.seqL_new ?gx (by assumption); (case gx => walk_at "sq"))
  | (refine' SH.Off.seqT (by assumption) ?gx; (case gx => walk_at "sq"))
  | (refine' SH.Off.seqL (by assumption) ?gy ?gx; (case gx => walk_at "sq"); (case gy => walk_at "nin")))
local macro_rules | `(tactic| walk_at "kd") => `(tactic| first
  | assumption | exact SH.KdV.int _ | exact SH.KdV.bl _ | exact SH.KdV.str _ | exact SH.KdV.non
  | (apply SH.KdV.tup; (· walk_at "sq")) | (apply SH.KdV.lst; (· walk_at "sq")))
/-- a way that cannot be -/
local macro_rules | `(tactic| walk_at "no") => `(tactic| (exfalso; first | assumption | omega | contradiction | (simp_all; done)))
/-- one step -/
local macro_rules | `(tactic| walk_at "g1") => `(tactic| with_reducible first
  | refine SH.g_var (by with_unfolding_all rfl) ?_ | refine SH.g_c ?_ | refine SH.g_op ?_ | refine SH.g_un ?_ | refine SH.g_I0 ?_ | refine SH.g_U ?_
  | refine SH.g_eqI ?_ | refine SH.g_neI ?_ | refine SH.g_eqS ?_ | refine SH.g_neS ?_
  | refine SH.g_test ?_ | refine SH.g_B ?_ | refine SH.g_isB ?_ | refine SH.g_and ?_ | refine SH.g_or ?_ | refine SH.g_not ?_ | refine SH.g_andV ?_ | refine SH.g_orV ?_ | refine SH.g_notV ?_ | refine SH.g_ifE ?_ | refine SH.g_chain ?_
  | refine SH.g_nil ?_ | refine SH.g_cons ?_ | refine SH.g_tup ?_ | refine SH.g_lst ?_ | refine SH.g_call ?_ | refine SH.g_fld ?_ | refine SH.g_meth ?_ | refine SH.g_make ?_ | refine SH.g_cb ?_ | refine SH.g_bm ?_
  | refine SH.g_seq ?_ | refine SH.g_asg ?_ | refine SH.g_name ?_ | refine SH.g_drop ?_ | refine SH.g_ret ?_ | refine SH.g_retN ?_ | refine SH.g_next ?_ | refine SH.g_brk ?_ | refine SH.g_cnt ?_ | refine SH.g_ifs ?_ | refine SH.g_par ?_ | refine SH.g_par2 ?_ | refine SH.g_fldS ?_ | refine SH.g_raise ?_ | refine SH.g_rs ?_
  | refine SH.g_sub ?_ | refine SH.g_yes ?_ | refine SH.g_sl ?_ | refine SH.g_noPart ?_ | refine SH.g_part ?_ | refine SH.g_intO ?_ | refine SH.g_dget ?_ | refine SH.g_dput ?_ | refine SH.g_forR ?_ | refine SH.g_forL ?_ | refine SH.g_forT ?_ | refine SH.g_lcR ?_ | refine SH.g_lcL ?_ | refine SH.g_lcT ?_ | refine SH.g_gcons ?_ | refine SH.g_gnil ?_
  | refine SH.br_t ?_ | refine SH.br_f ?_
  | refine SH.g_int ?_ | refine SH.g_abs ?_ | refine SH.g_max2 ?_ | refine SH.g_min2 ?_)
local macro_rules | `(tactic| walk_at "g2") => `(tactic| first
  | walk_at "g1"
  | ((with_reducible refine' SH.g_isiInt ?ga ?gz); (case ga => walk_at "kd"))
  | ((with_reducible refine' SH.g_isiBool ?ga ?gz); (case ga => walk_at "kd"))
  | ((with_reducible refine' SH.g_isiStr ?ga ?gz); (case ga => walk_at "kd"))
  | ((with_reducible refine' SH.g_isiTup ?ga ?gz); (case ga => walk_at "kd"))
  | ((with_reducible refine' SH.g_ixT ?ga ?gb ?gz); (case ga => walk_at "sq"); (case gb => rfl))
  | ((with_reducible refine' SH.g_ixL ?ga ?gb ?gz); (case ga => walk_at "sq"); (case gb => first | rfl | (apply SH.atI_refs; assumption)))
  | ((with_reducible refine SH.br_F ?_ ?_); (· decide +kernel)) | ((with_reducible refine SH.br_T ?_ ?_); (· decide +kernel)) | ((with_reducible refine SH.br_NF ?_ ?_); (· decide +kernel)) | ((with_reducible refine SH.br_NT ?_ ?_); (· decide +kernel))
  | ((with_reducible refine' SH.g_gtup ?ga ?gb ?gz); (case ga => walk_at "sq"); (case gb => rfl))
  | ((with_reducible refine' SH.g_lenT ?ga ?gz); (case ga => walk_at "sq"))
  | ((with_reducible refine' SH.g_lenL ?ga ?gz); (case ga => walk_at "sq"))
  | ((with_reducible refine SH.g_mkT (SH.sz rfl) ?_); intro _ _)
  | ((with_reducible refine SH.g_mkL (SH.sz rfl) ?_); intro _ _)
  | ((with_reducible refine SH.g_dnew ?_); intro _ _)
  | ((with_reducible refine' SH.g_tupL ?ga ?gz); (case ga => walk_at "sq"); intro _ _)
  | ((with_reducible refine' SH.g_lstL ?ga ?gz); (case ga => walk_at "sq"); intro _ _)
  | ((with_reducible refine' SH.g_lstT ?ga ?gz); (case ga => walk_at "sq"); intro _ _)
  | ((with_reducible refine' SH.g_dgR ?ga ?gb ?gz); (case ga => walk_at "hp"); (case gb => walk_at "dv"))
  | ((with_reducible refine' SH.g_fldR ?ga ?gb ?gc ?gd ?gz); (case ga => walk_at "hp"); (case gb => walk_at "cl"); (case gc => walk_at "na"); (case gd => walk_at "fv"))
  | ((with_reducible refine' SH.g_insR ?ga ?gb ?gz); (case ga => walk_at "hp"); (case gb => walk_at "fn"))
  | ((with_reducible refine' SH.g_setL ?ga ?gb ?gz); (case ga => walk_at "hp"); (case gb => rfl))
  | ((with_reducible refine SH.g_I ?_ ?_); (· walk_at "ci"))
  | ((with_reducible refine' SH.g_slL ?ga ?gz); (case ga => walk_at "sq"); intro _ _)
  | ((with_reducible refine' SH.g_cat ?ga ?gb ?gc ?gz); (case ga => walk_at "hp"); (case gb => walk_at "hp"); (case gc => walk_at "ls"); intro _ _))
/-- the side conditions of numbers: a divisor, a factor -/
local macro_rules | `(tactic| walk_at "ci") => `(tactic| first
  | (show _ ≠ _; omega) | (show _ < _; omega) | (constructor <;> omega) | (refine Or.inr ⟨?_, ?_⟩ <;> (show _ < _; omega)) | (refine Or.inl ⟨?_, ?_⟩ <;> (show _ < _; omega)) | (refine ⟨?_, ?_, ?_⟩ <;> decide))
local macro_rules | `(tactic| walk_at "ls") => `(tactic| first | (show _ ≤ _; exact Nat.le_trans (by assumption) (by decide)) | (show _ ≤ _; exact Nat.le_trans (by simp; omega) (by decide : 1000 ≤ sizeLine)))
local macro_rules | `(tactic| walk_at "dv") => `(tactic| rfl)
local macro_rules | `(tactic| walk_at "fv") => `(tactic| rfl)
local macro_rules | `(tactic| walk_at "fn") => `(tactic| rfl)
local macro_rules | `(tactic| walk_at "cl") => `(tactic| assumption)
local macro_rules | `(tactic| walk_at "na") => `(tactic| assumption)
local macro_rules | `(tactic| walk_at "go") => `(tactic| repeat walk_at "g2")
/-- a way is split -/
local macro_rules | `(tactic| walk_at "br") => `(tactic| with_reducible first
  | refine SH.br_d (fun _ => ?_) (fun _ => ?_) | refine SH.br_nd (fun _ => ?_) (fun _ => ?_) | refine SH.br_b (fun _ => ?_) (fun _ => ?_))
/-- all ways -/
local macro_rules | `(tactic| walk_at "all") => `(tactic| repeat' first | walk_at "g2" | (walk_at "br" <;> try (walk_at "no")))
/-- a truth value is the other -/
local macro_rules | `(tactic| walk_at "bq") => `(tactic| first | rfl | (simp_all; done) | (simp_all; omega) | (simp only [decide_eq_true_eq, decide_eq_false_iff_not, Bool.and_eq_true, Bool.or_eq_true] at *; omega))
/-- what was tracked is as it was -/
local macro_rules | `(tactic| walk_at "of") => `(tactic| first
  | assumption
  | exact SH.Off.refl _ _
  | (refine' SH.Off.new2 ?gx (by assumption); (case gx => walk_at "of"))
  | (refine' SH.Off.mut ?gx (by assumption); (case gx => walk_at "of"))
  | (refine' SH.Off.trans' ?gx (by assumption) ?gy; (case gy => (intro _ h; (first | exact h | (simp at h; done) | (simp at h ⊢; simp [h]; done)))); (case gx => walk_at "of")))
/-- kinds; parts of tuples; stars -/
local macro_rules | `(tactic| walk_at "g2") => `(tactic| first
  | (with_reducible first | refine SH.br_ntt ?_ | refine SH.br_ntf ?_ | refine SH.br_k ?_ | refine SH.br_nk ?_ | refine SH.g_star ?_ | refine SH.g_forR2 ?_ | refine SH.g_lcZ ?_ | refine SH.g_enL ?_)
  | ((with_reducible refine' SH.g_slA ?ga ?gz); (case ga => walk_at "sq"); intro _ _ _ _)
  | ((with_reducible refine' SH.g_app' ?ga ?gb ?gz); (case ga => walk_at "hp"); (case gb => walk_at "lt"); intro _ _ _)
  | ((with_reducible refine' SH.g_bml ?ga ?gz); (case ga => walk_at "sq"))
  | ((with_reducible refine' SH.g_popF ?ga ?gz); (case ga => walk_at "hp"); intro _ _ _)
  | (with_reducible first | refine SH.g_pnil ?_ | refine SH.g_pcons ?_ | (refine SH.g_disp ?_; intro _ _))
  | ((with_reducible refine' SH.g_kw ?gz))
  | ((with_reducible refine SH.g_kwR rfl ?_)))
local macro_rules | `(tactic| walk_at "lt") => `(tactic| (rw [PySem.sizeLine_eq]; omega))
/-- the law's dice -/
local macro_rules | `(tactic| walk_at "dc") => `(tactic| first
  | assumption
  | (refine' SH.DiceAt.new ?gx (by assumption); (case gx => walk_at "dc"))
  | (refine' SH.DiceAt.off ?gx (by assumption) ?gy; (case gx => walk_at "dc"); (case gy => walk_at "nin")))
local macro_rules | `(tactic| walk_at "g2") => `(tactic| first
  | ((with_reducible refine' SH.g_roll ?ga ?gb ?gc ?gd ?gz); (case ga => walk_at "dc"); (case gb => omega); (case gc => omega); (case gd => omega); intro _ _ _ _ _ _))
namespace SH
open PySem PySem.Spec PyProof.Rows L2
/-- what stands near worths: whole numbers in a tuple, or no tuple -/
def NwT (K : PySem.W.Frag) (H : Hp) (v : V) : Prop := ∃ (p : Addr) (ws : List Int), v = .ref p ∧ SqT K H p (ws.map V.int) ∧ ws.length ≤ 1000
theorem NwT.off {K : PySem.W.Frag} {S : List Addr} {H H' : Hp} {v : V} (h : NwT K H v) (o : Off S H H') : NwT K H' v := by
  obtain ⟨p, ws, rfl, h1, h2⟩ := h
  exact ⟨p, ws, rfl, o.seqT h1, h2⟩
def NwV (K : PySem.W.Frag) (H : Hp) (v : V) : Prop := NwT K H v ∨ ∃ k, KdV K H v k ∧ k ≠ .tup
theorem NwV.offN {K : PySem.W.Frag} {H H' : Hp} {v : V} (h : NwV K H v) (o : Off [] H H') : NwV K H' v := by
  rcases h with h | ⟨k, h1, h2⟩
  · exact .inl (h.off o)
  · exact .inr ⟨k, h1.offN o, h2⟩
theorem KdV.offA {K : PySem.W.Frag} {H H' : Hp} {a : Addr} {v : V} {kd : Kd} (hk : KdV K H v kd) (o : Off [a] H H') (ne : v ≠ .ref a) : KdV K H' v kd := by
  have nin : ∀ {p : Addr}, V.ref p ≠ .ref a → p ∉ [a] := fun {p} n h => n (by rw [List.mem_singleton.mp h])
  cases hk with
  | non => exact .non
  | bl b => exact .bl b
  | int i => exact .int i
  | str z => exact .str z
  | @lst p xs h => exact .lst (o.seqL (nin ne) h)
  | tup h => exact .tup (o.seqT h)
  | dct h => exact .dct (o.at (nin ne) h)
theorem NwV.offA {K : PySem.W.Frag} {H H' : Hp} {a : Addr} {v : V} (h : NwV K H v) (o : Off [a] H H') (ne : v ≠ .ref a) : NwV K H' v := by
  rcases h with h | ⟨k, h1, h2⟩
  · exact .inl (h.off o)
  · exact .inr ⟨k, h1.offA o ne, h2⟩
theorem paired_ints : ∀ ws : List Int, Paired (fun (x : V) (m : Int) => x = V.int m) (ws.map V.int) ws
  | [] => .nil
  | _ :: ws => .cons rfl (paired_ints ws)
theorem cut_ints (ws : List Int) (lo hi : Option Int) : ∃ us : List Int, cutV (ws.map V.int) lo hi = us.map V.int ∧ us.length ≤ ws.length := by
  have h := cutV_len (ws.map V.int) lo hi
  rw [List.length_map] at h
  unfold cutV at h ⊢
  rw [← List.map_drop, ← List.map_take] at h ⊢
  rw [List.length_map] at h
  exact ⟨_, rfl, h⟩
def spNw (K : PySem.W.Frag) : Sp := fun vs H Q _ => ∃ (a t : Addr) (c : Int) (ws : List Int), vs = [.ref a, .ref t] ∧ DiceAt H a c ∧ c ≤ 100000000 ∧ SqT K H t (ws.map V.int) ∧ 1 ≤ ws.length ∧ ws.length ≤ 100 ∧ ∀ v H', NwV K H' v → DiceAt H' a (c + 3) → Off [a] H H' → Q v H'
section
variable {P : Program} {w : World} {K : PySem.W.Frag} {mg : Str → Option Value} {base : Heap}
set_option maxHeartbeats 1000000 in
theorem ok_law_near_worths (T : Txt P w K mg) : DefOk P w K mg base "_law_near_worths" 3 ["dice", "value"] (spNw K) := by
  refine T.d_law_near_worths.ok sc_law_near_worths (fun _ _ _ _ _ _ us hl => match us, hl with | [_, _], _ => rfl) (fun vs H Q E h => ?_) (fun f cdv A outer s H vs Q E hr h => ?_)
  · obtain ⟨a, t, c, ws, rfl, _⟩ := h
    rfl
  · obtain ⟨a, t, c, ws, rfl, hd, hc, ht, h1, h2, q⟩ := h
    have B := T.blt
    have hu := hu_of hr
    have G_law_roll := ok_law_roll (base := base) T
    have G_law_pick := ok_law_pick (base := base) T
    refine ⟨_, (pss_cons (ps_set (i := 2) sc_law_near_worths.nd rfl (by first | exact Or.inl rfl | exact Or.inr rfl) (pe_df G_law_roll (hr.mono (by decide)) (L2N.passes_call (L2N.takes_of rfl rfl rfl rfl) fun _ _ _ _ z => z) (pa_cons (pv 0) (pa_cons (pe_callB (c_lenK (K := K) rfl) (by rfl) B.b_len PySem.boot_len (pa_cons (pv 1) pa_nil)) pa_nil))))
  (pss_cons (ps_set (i := 3) sc_law_near_worths.nd rfl (by first | exact Or.inl rfl | exact Or.inr rfl) (pe_df G_law_pick (hr.mono (by decide)) (L2N.passes_call (L2N.takes_of rfl rfl rfl rfl) fun _ _ _ _ z => z) (pa_cons (pv 0) (pa_cons (pe_lst (pa_cons pe_int (pa_cons (pe_un un_neg pe_int) (pa_cons pe_int (pa_cons (pe_un un_neg pe_int) pa_nil))))) pa_nil))))
  (pss_cons (ps_set (i := 4) sc_law_near_worths.nd rfl (by first | exact Or.inl rfl | exact Or.inr rfl) (pe_lst (pa_cons (pe_op (op_catAK (K := K) rfl) (pe_op (op_catAK (K := K) rfl) (pe_slice (sl_tupAK (K := K) rfl) (pv 1) po_none (po_some (pv 2))) (pe_tup (pa_cons (pe_op op_add (pe_ix (ix_tupK (K := K) rfl) (pv 1) (pv 2) (fun _ _ => rfl)) (pv 3)) pa_nil))) (pe_slice (sl_tupAK (K := K) rfl) (pv 1) (po_some (pe_op op_add (pv 2) pe_int)) po_none)) (pa_cons (pe_callTy (c_tupK (K := K) rfl) (by rfl) B.b_tuple (by decide +kernel) (pa_cons (pe_lc (own := [("one", 5)]) rfl sc_law_near_worths.nd (pi_tupK (K := K) rfl (pv 1)) (blkOk_by (own := [("one", 5)]) (N := ["dice", "value", "at", "by", "odd", "one"]) (sc := defScope s_law_near_worths) (by decide +kernel)) (fun _ _ _ _ _ => (pg_name (i := 5) sc_law_near_worths.nd rfl (by first | exact Or.inl rfl | exact Or.inr rfl))) (fun _ _ _ _ _ => pts_nil) (fun _ _ _ _ _ => (pe_op op_add (pv 5) pe_int))) pa_nil)) (pa_cons (pe_slice (sl_tupAK (K := K) rfl) (pv 1) (po_some pe_int) po_none) (pa_cons (pe_op (op_catAK (K := K) rfl) (pv 1) (pe_tup (pa_cons pe_int pa_nil))) (pa_cons (pe_callTy (c_lstK (K := K) rfl) (by rfl) B.b_list (by decide +kernel) (pa_cons (pv 1) pa_nil)) (pa_cons pe_non (pa_cons (pe_revTK (K := K) rfl (pv 1)) pa_nil)))))))))
  (pss_one (ps_ret (pe_df G_law_pick (hr.mono (by decide)) (L2N.passes_call (L2N.takes_of rfl rfl rfl rfl) fun _ _ _ _ z => z) (pa_cons (pv 0) (pa_cons (pe_op op_cat (pv 4) (pe_lst (pa_cons (pe_callTy (c_tupK (K := K) rfl) (by rfl) B.b_tuple (by decide +kernel) (pa_cons (pe_lc (own := [("one", 5)]) rfl sc_law_near_worths.nd (pi_tupK (K := K) rfl (pv 1)) (blkOk_by (own := [("one", 5)]) (N := ["dice", "value", "at", "by", "odd", "one"]) (sc := defScope s_law_near_worths) (by decide +kernel)) (fun _ _ _ _ _ => (pg_name (i := 5) sc_law_near_worths.nd rfl (by first | exact Or.inl rfl | exact Or.inr rfl))) (fun _ _ _ _ _ => pts_nil) (fun _ _ _ _ _ => pe_int)) pa_nil)) (pa_cons (pe_callTy (c_tupK (K := K) rfl) (by rfl) B.b_tuple (by decide +kernel) (pa_cons (pe_lc (own := [("one", 5)]) rfl sc_law_near_worths.nd (pi_tupK (K := K) rfl (pv 1)) (blkOk_by (own := [("one", 5)]) (N := ["dice", "value", "at", "by", "odd", "one"]) (sc := defScope s_law_near_worths) (by decide +kernel)) (fun _ _ _ _ _ => (pg_name (i := 5) sc_law_near_worths.nd rfl (by first | exact Or.inl rfl | exact Or.inr rfl))) (fun _ _ _ _ _ => pts_nil) (fun _ _ _ _ _ => (pe_op op_mul pe_int (pv 5)))) pa_nil)) pa_nil)))) pa_nil)))))))), ?_⟩
    have ew : (ws.map V.int).length = ws.length := List.length_map ..
    walk_at "go"
    rename_i at' H1 a0 a1 d1 o1 pB hpB
    refine g_pick (ns := [1, -1, 3, -3]) (-3) 3 hpB d1 (by omega) (fun k hk => ?_) (by simp) (by simp) fun y H2 hyk y0 y1 d2 o2 => ?_
    · simp only [List.mem_cons, List.not_mem_nil, or_false] at hk
      rcases hk with rfl | rfl | rfl | rfl <;> omega
    have o02 : Off [a] H H2 := (o1.trans (Off.new hpB)).trans o2
    have ht2 := o02.seqT ht
    clear hyk d1 o1 o2
    walk_at "go"
    rename_i p1 H4 e1 o4
    obtain ⟨us1, eu1, lu1⟩ := cut_ints ws none (some at')
    obtain ⟨v1, hv1, hm1, _⟩ := atI_nat' (xs := ws.map V.int) a0 a1
    obtain ⟨z, _, rfl⟩ := List.mem_map.mp hm1
    rw [eu1] at e1
    refine g_ixT (o4.seqT ht2) hv1 ?_
    walk_at "go"
    rename_i p2 hp2
    refine g_catA (seqT_new e1 hp2) (.of upd_same) (by rw [List.length_map, sizeLine_eq]; simp; omega) fun p3 H5 e3 o5 => ?_
    have o25 : Off [] H2 H5 := (o4.new2 hp2).trans o5
    have ht5 := o25.seqT ht2
    clear e1 o5 o4
    walk_at "go"
    rename_i p4 H6 e4 o6
    obtain ⟨us2, eu2, lu2⟩ := cut_ints ws (some (at' + 1)) none
    rw [eu2] at e4
    refine g_catA (o6.seqT e3) e4 (by rw [List.length_append, List.length_map, List.length_map, sizeLine_eq]; simp; omega) fun p5 H7 e5 o7 => ?_
    have n1 : NwT K H7 (.ref p5) := ⟨p5, us1 ++ [z + y] ++ us2, rfl, by rw [List.map_append, List.map_append]; exact e5, by rw [List.length_append, List.length_append]; simp; omega⟩
    have o27 := (o25.trans o6).trans o7
    have ht7 := o27.seqT ht2
    clear e3 e4 e5 o6 o7 o25 ht5
    walk_at "go"
    refine lcT_map (F := fun x (m : Int) => x = V.int m) (fun m => .int (m + 2)) ht7 (paired_ints ws) (by rw [sizeLine_eq]; omega) (fun _ => rfl) (fun x m H9 e o9 M kk => ?_) (fun D1 H8 hD1 o8 eD1 => ?_)
    · subst e
      walk_at "go"
      exact kk _ (.refl _ _)
    have eD1' : H8 D1 = some (.lst ((ws.map fun m => m + 2).map V.int)) := by rw [eD1, List.map_map]; rfl
    have ht8 := o8.seqT ht7
    walk_at "go"
    rename_i p6 hp6 p7 H9 e7 o9 p8 hp8
    have n2 : NwT K H9 (.ref p6) := ⟨p6, ws.map (fun m => m + 2), rfl, o9.seqT (.of upd_same), by rw [List.length_map]; omega⟩
    obtain ⟨us3, eu3, lu3⟩ := cut_ints ws (some 1) none
    rw [eu3] at e7
    have n3 : NwT K H9 (.ref p7) := ⟨p7, us3, rfl, e7, by omega⟩
    have o29 := (((o27.trans o8).new2 (o := HO.tup ((ws.map fun m => m + 2).map V.int)) hp6).trans o9)
    have n1' := n1.off ((o8.new2 (o := HO.tup ((ws.map fun m => m + 2).map V.int)) hp6).trans o9)
    have ht9 := o29.seqT ht2
    refine g_catA (seqT_new ht9 hp8) (.of upd_same) (by rw [List.length_map, sizeLine_eq]; simp; omega) fun p9 H10 e9 o10 => ?_
    have o9' := (Off.new (S := []) (o := HO.tup [.int 0]) hp8).trans o10
    have n4 : NwT K H10 (.ref p9) := ⟨p9, ws ++ [0], rfl, by rw [List.map_append]; exact e9, by rw [List.length_append]; simp; omega⟩
    have n1 := n1'.off o9'
    have n2 := n2.off o9'
    have n3 := n3.off o9'
    have o2A := o29.trans o9'
    have ht10 := o2A.seqT ht2
    clear n1' o9' o10 o9 o8 ht9 o29 ht8 ht7 e7 hp8 hp6 eD1 eD1'
    walk_at "go"
    rename_i pl hpl
    refine g_revTE ?_
    walk_at "go"
    refine g_revT (seqT_new ht10 hpl) fun pr hpr => ?_
    walk_at "go"
    rename_i pO hpO
    have ha2 : H2 a ≠ none := by
      obtain ⟨_, _, _, h, _⟩ := d2
      rw [h]
      exact fun z => by cases z
    have nla : V.ref pl ≠ V.ref a := fun z => by
      cases z
      exact ha2 (o2A.back hpl)
    have oA : Off [] H10 (upd (upd (upd H10 pl (HO.lst (ws.map V.int))) pr (HO.tup (ws.map V.int).reverse)) pO (HO.lst [V.ref p5, V.ref p6, V.ref p7, V.ref p9, V.ref pl, V.non, V.ref pr])) := ((Off.new hpl).new2 hpr).new2 hpO
    have hO : (upd (upd (upd H10 pl (HO.lst (ws.map V.int))) pr (HO.tup (ws.map V.int).reverse)) pO (HO.lst [V.ref p5, V.ref p6, V.ref p7, V.ref p9, V.ref pl, V.non, V.ref pr])) pO = some (HO.lst [V.ref p5, V.ref p6, V.ref p7, V.ref p9, V.ref pl, V.non, V.ref pr]) := upd_same
    have n5 : NwV K (upd (upd (upd H10 pl (HO.lst (ws.map V.int))) pr (HO.tup (ws.map V.int).reverse)) pO (HO.lst [V.ref p5, V.ref p6, V.ref p7, V.ref p9, V.ref pl, V.non, V.ref pr])) (.ref pl) := .inr ⟨.lst, .lst (.of (by walk_at "hp")), by decide⟩
    have n7 : NwT K (upd (upd (upd H10 pl (HO.lst (ws.map V.int))) pr (HO.tup (ws.map V.int).reverse)) pO (HO.lst [V.ref p5, V.ref p6, V.ref p7, V.ref p9, V.ref pl, V.non, V.ref pr])) (.ref pr) := ⟨pr, ws.reverse, rfl, by rw [List.map_reverse]; exact .of (by walk_at "hp"), by rw [List.length_reverse]; omega⟩
    have n1 := n1.off oA
    have n2 := n2.off oA
    have n3 := n3.off oA
    have n4 := n4.off oA
    have o2B := o2A.trans oA
    have htB := o2B.seqT ht2
    clear oA
    generalize upd (upd (upd H10 pl (HO.lst (ws.map V.int))) pr (HO.tup (ws.map V.int).reverse)) pO (HO.lst [V.ref p5, V.ref p6, V.ref p7, V.ref p9, V.ref pl, V.non, V.ref pr]) = HB at *
    walk_at "go"
    refine lcT_map (F := fun x (m : Int) => x = V.int m) (fun m => .int 0) htB (paired_ints ws) (by rw [sizeLine_eq]; omega) (fun _ => rfl) (fun x m H9 e o9 M kk => ?_) (fun D2 HC hD2 oC eD2 => ?_)
    · subst e
      walk_at "go"
      exact kk _ (.refl _ _)
    have eD2' : HC D2 = some (.lst ((ws.map fun _ => (0 : Int)).map V.int)) := by rw [eD2, List.map_map]; rfl
    have htC := oC.seqT htB
    walk_at "go"
    rename_i q1 hq1
    have htD := seqT_new (o := HO.tup ((ws.map fun _ => (0 : Int)).map V.int)) htC hq1
    have n8 : NwT K (upd HC q1 (HO.tup ((ws.map fun _ => (0 : Int)).map V.int))) (.ref q1) := ⟨q1, ws.map (fun _ => (0 : Int)), rfl, .of upd_same, by rw [List.length_map]; omega⟩
    have oD := oC.new2 (o := HO.tup ((ws.map fun _ => (0 : Int)).map V.int)) hq1
    generalize upd HC q1 (HO.tup ((ws.map fun _ => (0 : Int)).map V.int)) = HD at *
    refine lcT_map (F := fun x (m : Int) => x = V.int m) (fun m => .int (2 * m)) htD (paired_ints ws) (by rw [sizeLine_eq]; omega) (fun _ => rfl) (fun x m H9 e o9 M kk => ?_) (fun D3 HE hD3 oE eD3 => ?_)
    · subst e
      walk_at "go"
      exact kk _ (.refl _ _)
    have eD3' : HE D3 = some (.lst ((ws.map fun m => 2 * m).map V.int)) := by rw [eD3, List.map_map]; rfl
    walk_at "go"
    rename_i q2 hq2 q3 hq3
    have oF : Off [] HB (upd (upd HE q2 (HO.tup ((ws.map fun m => 2 * m).map V.int))) q3 (HO.lst [.ref q1, .ref q2])) := ((oD.trans oE).new2 hq2).new2 hq3
    have oF2 : Off [] HD (upd (upd HE q2 (HO.tup ((ws.map fun m => 2 * m).map V.int))) q3 (HO.lst [.ref q1, .ref q2])) := (oE.new2 hq2).new2 hq3
    refine g_cat (oF.at nin_nil hO) upd_same (by rw [sizeLine_eq]; simp) fun pz hpz => ?_
    have oG := oF.new2 (o := HO.lst ([V.ref p5, V.ref p6, V.ref p7, V.ref p9, V.ref pl, V.non, V.ref pr] ++ [.ref q1, .ref q2])) hpz
    have oG2 := oF2.new2 (o := HO.lst ([V.ref p5, V.ref p6, V.ref p7, V.ref p9, V.ref pl, V.non, V.ref pr] ++ [.ref q1, .ref q2])) hpz
    have n9 : NwT K (upd (upd (upd HE q2 (HO.tup ((ws.map fun m => 2 * m).map V.int))) q3 (HO.lst [.ref q1, .ref q2])) pz (HO.lst ([V.ref p5, V.ref p6, V.ref p7, V.ref p9, V.ref pl, V.non, V.ref pr] ++ [.ref q1, .ref q2]))) (.ref q2) := ⟨q2, ws.map (fun m => 2 * m), rfl, .of (by walk_at "hp"), by rw [List.length_map]; omega⟩
    have n1 := n1.off oG
    have n2 := n2.off oG
    have n3 := n3.off oG
    have n4 := n4.off oG
    have n5 := n5.offN oG
    have n7 := n7.off oG
    have n8 := n8.off oG2
    have hz : (upd (upd (upd HE q2 (HO.tup ((ws.map fun m => 2 * m).map V.int))) q3 (HO.lst [.ref q1, .ref q2])) pz (HO.lst ([V.ref p5, V.ref p6, V.ref p7, V.ref p9, V.ref pl, V.non, V.ref pr] ++ [.ref q1, .ref q2]))) pz = some (HO.lst [V.ref p5, V.ref p6, V.ref p7, V.ref p9, V.ref pl, V.non, V.ref pr, .ref q1, .ref q2]) := upd_same
    have oH := o2B.trans oG
    have nez : a ≠ pz := (d2.off (o2B.trans oF) nin_nil).ne hpz
    generalize upd (upd (upd HE q2 (HO.tup ((ws.map fun m => 2 * m).map V.int))) q3 (HO.lst [.ref q1, .ref q2])) pz (HO.lst ([V.ref p5, V.ref p6, V.ref p7, V.ref p9, V.ref pl, V.non, V.ref pr] ++ [.ref q1, .ref q2])) = HZ at *
    refine ⟨a, pz, c + 1 + 1, _, rfl, d2.off oH nin_nil, by omega, .of hz, by simp, by simp, nez, fun v HF hv dF oF => q v HF ?_ (dF.mono (by omega)) ((o02.trans (oH.mono fun _ z => absurd z (by simp))).trans oF)⟩
    simp only [List.mem_cons, List.not_mem_nil, or_false] at hv
    rcases hv with rfl | rfl | rfl | rfl | rfl | rfl | rfl | rfl | rfl
    · exact .inl (n1.off oF)
    · exact .inl (n2.off oF)
    · exact .inl (n3.off oF)
    · exact .inl (n4.off oF)
    · exact n5.offA oF nla
    · exact .inr ⟨.non, .non, by decide⟩
    · exact .inl (n7.off oF)
    · exact .inl (n8.off oF)
    · exact .inl (n9.off oF)
end
end SH
end

section
/-! #### the walk's words -/
local macro_rules | `(tactic| walk_at "ne0") => `(tactic| first
  | assumption
  | (refine Ne.symm ?_; assumption))
local macro_rules | `(tactic| walk_at "ne") => `(tactic| first
  | assumption
  | (refine Ne.symm ?_; assumption)
  | (refine' L2.ne_of_none ?gx (by assumption); (case gx => walk_at "hp"))
  | (refine' Ne.symm (L2.ne_of_none ?gx (by assumption)); (case gx => walk_at "hp")))
local macro_rules | `(tactic| walk_at "hp") => `(tactic| first
  | assumption
  | exact L2.upd_same
  | (refine' SH.upd_new ?gh (by assumption); (case gh => walk_at "hp"))
  | (refine' (L2.upd_ne ?gn).trans ?gh; (case gn => walk_at "ne0"); (case gh => walk_at "hp"))
  | (refine' SH.Off.at (by assumption) ?gn ?gh; (case gn => walk_at "nin"); (case gh => walk_at "hp")))
local macro_rules | `(tactic| walk_at "nin") => `(tactic| first
  | exact SH.nin_nil
  | (refine SH.nin_cons ?_ ?_; (· walk_at "ne0"); (· walk_at "nin")))
local macro_rules | `(tactic| walk_at "sq") => `(tactic| first
  | assumption
  | (apply L2.SqL.of; (· walk_at "hp"))
  | (apply L2.SqT.of; (· walk_at "hp"))
  | (refine' SH.seqT_new ?gx (by assumption); (case gx => walk_at "sq"))
  | (refine' SH.seqL_new ?gx (by assumption); (case gx => walk_at "sq"))
  | (refine' SH.Off.seqT (by assumption) ?gx; (case gx => walk_at "sq"))
  | (refine' SH.Off.seqL (by assumption) ?gy ?gx; (case gx => walk_at "sq"); (case gy => walk_at "nin")))
local macro_rules | `(tactic| walk_at "kd") => `(tactic| first
  | assumption | exact SH.KdV.int _ | exact SH.KdV.bl _ | exact SH.KdV.str _ | exact SH.KdV.non
  | (apply SH.KdV.tup; (· walk_at "sq")) | (apply SH.KdV.lst; (· walk_at "sq")))
/-- a way that cannot be -/
local macro_rules | `(tactic| walk_at "no") => `(tactic| (exfalso; first | assumption | omega | contradiction | (simp_all; done)))
/-- one step -/
local macro_rules | `(tactic| walk_at "g1") => `(tactic| with_reducible first
  | refine SH.g_var (by with_unfolding_all rfl) ?_ | refine SH.g_c ?_ | refine SH.g_op ?_ | refine SH.g_un ?_ | refine SH.g_I0 ?_ | refine SH.g_U ?_
  | refine SH.g_eqI ?_ | refine SH.g_neI ?_ | refine SH.g_eqS ?_ | refine SH.g_neS ?_
  | refine SH.g_test ?_ | refine SH.g_B ?_ | refine SH.g_isB ?_ | refine SH.g_and ?_ | refine SH.g_or ?_ | refine SH.g_not ?_ | refine SH.g_andV ?_ | refine SH.g_orV ?_ | refine SH.g_notV ?_ | refine SH.g_ifE ?_ | refine SH.g_chain ?_
  | refine SH.g_nil ?_ | refine SH.g_cons ?_ | refine SH.g_tup ?_ | refine SH.g_lst ?_ | refine SH.g_call ?_ | refine SH.g_fld ?_ | refine SH.g_meth ?_ | refine SH.g_make ?_ | refine SH.g_cb ?_ | refine SH.g_bm ?_
  | refine SH.g_seq ?_ | refine SH.g_asg ?_ | refine SH.g_name ?_ | refine SH.g_drop ?_ | refine SH.g_ret ?_ | refine SH.g_retN ?_ | refine SH.g_next ?_ | refine SH.g_brk ?_ | refine SH.g_cnt ?_ | refine SH.g_ifs ?_ | refine SH.g_par ?_ | refine SH.g_par2 ?_ | refine SH.g_fldS ?_ | refine SH.g_raise ?_ | refine SH.g_rs ?_
  | refine SH.g_sub ?_ | refine SH.g_yes ?_ | refine SH.g_sl ?_ | refine SH.g_noPart ?_ | refine SH.g_part ?_ | refine SH.g_intO ?_ | refine SH.g_dget ?_ | refine SH.g_dput ?_ | refine SH.g_forR ?_ | refine SH.g_forL ?_ | refine SH.g_forT ?_ | refine SH.g_lcR ?_ | refine SH.g_lcL ?_ | refine SH.g_lcT ?_ | refine SH.g_gcons ?_ | refine SH.g_gnil ?_
  | refine SH.br_t ?_ | refine SH.br_f ?_
  | refine SH.g_int ?_ | refine SH.g_abs ?_ | refine SH.g_max2 ?_ | refine SH.g_min2 ?_)
local macro_rules | `(tactic| walk_at "g2") => `(tactic| first
  | walk_at "g1"
  | ((with_reducible refine' SH.g_isiInt ?ga ?gz); (case ga => walk_at "kd"))
  | ((with_reducible refine' SH.g_isiBool ?ga ?gz); (case ga => walk_at "kd"))
  | ((with_reducible refine' SH.g_isiStr ?ga ?gz); (case ga => walk_at "kd"))
  | ((with_reducible refine' SH.g_isiTup ?ga ?gz); (case ga => walk_at "kd"))
  | ((with_reducible refine' SH.g_ixT ?ga ?gb ?gz); (case ga => walk_at "sq"); (case gb => rfl))
  | ((with_reducible refine' SH.g_ixL ?ga ?gb ?gz); (case ga => walk_at "sq"); (case gb => first | rfl | (apply SH.atI_refs; assumption)))
  | ((with_reducible refine SH.br_F ?_ ?_); (· decide +kernel)) | ((with_reducible refine SH.br_T ?_ ?_); (· decide +kernel)) | ((with_reducible refine SH.br_NF ?_ ?_); (· decide +kernel)) | ((with_reducible refine SH.br_NT ?_ ?_); (· decide +kernel))
  | ((with_reducible refine' SH.g_gtup ?ga ?gb ?gz); (case ga => walk_at "sq"); (case gb => rfl))
  | ((with_reducible refine' SH.g_lenT ?ga ?gz); (case ga => walk_at "sq"))
  | ((with_reducible refine' SH.g_lenL ?ga ?gz); (case ga => walk_at "sq"))
  | ((with_reducible refine SH.g_mkT (SH.sz rfl) ?_); intro _ _)
  | ((with_reducible refine SH.g_mkL (SH.sz rfl) ?_); intro _ _)
  | ((with_reducible refine SH.g_dnew ?_); intro _ _)
  | ((with_reducible refine' SH.g_tupL ?ga ?gz); (case ga => walk_at "sq"); intro _ _)
  | ((with_reducible refine' SH.g_lstL ?ga ?gz); (case ga => walk_at "sq"); intro _ _)
  | ((with_reducible refine' SH.g_lstT ?ga ?gz); (case ga => walk_at "sq"); intro _ _)
  | ((with_reducible refine' SH.g_dgR ?ga ?gb ?gz); (case ga => walk_at "hp"); (case gb => walk_at "dv"))
  | ((with_reducible refine' SH.g_fldR ?ga ?gb ?gc ?gd ?gz); (case ga => walk_at "hp"); (case gb => walk_at "cl"); (case gc => walk_at "na"); (case gd => walk_at "fv"))
  | ((with_reducible refine' SH.g_insR ?ga ?gb ?gz); (case ga => walk_at "hp"); (case gb => walk_at "fn"))
  | ((with_reducible refine' SH.g_setL ?ga ?gb ?gz); (case ga => walk_at "hp"); (case gb => rfl))
  | ((with_reducible refine SH.g_I ?_ ?_); (· walk_at "ci"))
  | ((with_reducible refine' SH.g_slL ?ga ?gz); (case ga => walk_at "sq"); intro _ _)
  | ((with_reducible refine' SH.g_cat ?ga ?gb ?gc ?gz); (case ga => walk_at "hp"); (case gb => walk_at "hp"); (case gc => walk_at "ls"); intro _ _))
/-- the side conditions of numbers: a divisor, a factor -/
local macro_rules | `(tactic| walk_at "ci") => `(tactic| first
  | (show _ ≠ _; omega) | (show _ < _; omega) | (constructor <;> omega) | (refine Or.inr ⟨?_, ?_⟩ <;> (show _ < _; omega)) | (refine Or.inl ⟨?_, ?_⟩ <;> (show _ < _; omega)) | (refine ⟨?_, ?_, ?_⟩ <;> decide))
local macro_rules | `(tactic| walk_at "ls") => `(tactic| first | (show _ ≤ _; exact Nat.le_trans (by assumption) (by decide)) | (show _ ≤ _; exact Nat.le_trans (by simp; omega) (by decide : 1000 ≤ sizeLine)))
local macro_rules | `(tactic| walk_at "dv") => `(tactic| rfl)
local macro_rules | `(tactic| walk_at "fv") => `(tactic| rfl)
local macro_rules | `(tactic| walk_at "fn") => `(tactic| rfl)
local macro_rules | `(tactic| walk_at "cl") => `(tactic| assumption)
local macro_rules | `(tactic| walk_at "na") => `(tactic| assumption)
local macro_rules | `(tactic| walk_at "go") => `(tactic| repeat walk_at "g2")
/-- a way is split -/
local macro_rules | `(tactic| walk_at "br") => `(tactic| with_reducible first
  | refine SH.br_d (fun _ => ?_) (fun _ => ?_) | refine SH.br_nd (fun _ => ?_) (fun _ => ?_) | refine SH.br_b (fun _ => ?_) (fun _ => ?_))
/-- all ways -/
local macro_rules | `(tactic| walk_at "all") => `(tactic| repeat' first | walk_at "g2" | (walk_at "br" <;> try (walk_at "no")))
/-- a truth value is the other -/
local macro_rules | `(tactic| walk_at "bq") => `(tactic| first | rfl | (simp_all; done) | (simp_all; omega) | (simp only [decide_eq_true_eq, decide_eq_false_iff_not, Bool.and_eq_true, Bool.or_eq_true] at *; omega))
/-- what was tracked is as it was -/
local macro_rules | `(tactic| walk_at "of") => `(tactic| first
  | assumption
  | exact SH.Off.refl _ _
  | (refine' SH.Off.new2 ?gx (by assumption); (case gx => walk_at "of"))
  | (refine' SH.Off.mut ?gx (by assumption); (case gx => walk_at "of"))
  | (refine' SH.Off.trans' ?gx (by assumption) ?gy; (case gy => (intro _ h; (first | exact h | (simp at h; done) | (simp at h ⊢; simp [h]; done)))); (case gx => walk_at "of")))
namespace SH
open PySem PySem.Spec PyProof.Rows L2
/-! ### what stands near fishing -/
/-- a tuple of flat values, n at most -/
def FlT (K : PySem.W.Frag) (H : Hp) (p : Addr) (n : Nat) : Prop := ∃ xs, SqT K H p xs ∧ xs.all flB = true ∧ xs.length ≤ n
theorem FlT.off {K : PySem.W.Frag} {S : List Addr} {H H' : Hp} {p : Addr} {n : Nat} (h : FlT K H p n) (o : Off S H H') : FlT K H' p n := by
  obtain ⟨xs, h1, h2⟩ := h
  exact ⟨xs, o.seqT h1, h2⟩
theorem FlT.new {K : PySem.W.Frag} {H : Hp} {p q : Addr} {n : Nat} {o : HO} (h : FlT K H p n) (hq : H q = none) : FlT K (upd H q o) p n := h.off (Off.new (S := []) hq)
theorem FlT.of {K : PySem.W.Frag} {H : Hp} {p : Addr} {xs : List V} (h : H p = some (.tup xs)) (hf : xs.all flB = true) : FlT K H p xs.length := ⟨xs, .of h, hf, Nat.le_refl _⟩
theorem FlT.of2 {K : PySem.W.Frag} {H : Hp} {p : Addr} {xs : List V} {n : Nat} (h : SqT K H p xs) (hf : xs.all flB = true) (hn : xs.length ≤ n) : FlT K H p n := ⟨xs, h, hf, hn⟩
section
variable {K : PySem.W.Frag} {H : Hp} {Q : VK} {a b : Addr} {n m : Nat}
theorem g_slF {lo hi : Option Int} (h : FlT K H a n) (q : ∀ p H', FlT K H' p n → Off [] H H' → Q (.ref p) H') : rSlA K (.ref a) lo hi H Q := by
  obtain ⟨xs, h1, h2, h3⟩ := h
  refine g_slA h1 fun p H' e o => q p H' ⟨_, e, List.all_eq_true.mpr fun x hx => List.all_eq_true.mp h2 x (mem_cutV hx), Nat.le_trans (cutV_len _ _ _) h3⟩ o
theorem g_catF (h1 : FlT K H a n) (h2 : FlT K H b m) (hz : n + m ≤ 1000) (q : ∀ p H', FlT K H' p (n + m) → Off [] H H' → Q (.ref p) H') : rCatA K (.ref a) (.ref b) H Q := by
  obtain ⟨xs, e1, e2, e3⟩ := h1
  obtain ⟨ys, f1, f2, f3⟩ := h2
  exact g_catA e1 f1 (by rw [sizeLine_eq]; omega) fun p H' e o => q p H' ⟨_, e, by rw [List.all_append, e2, f2]; rfl, by rw [List.length_append]; omega⟩ o
/-- list(t) -/
theorem g_lstF (h : FlT K H a n) (q : ∀ xs : List V, ∀ l, H l = none → Q (.ref l) (upd H l (.lst xs))) : rLst K [.ref a] H Q := by
  obtain ⟨xs, h1, h2, h3⟩ := h
  exact g_lstT h1 (q xs)
end
/-- what can be drawn -/
def NfT (K : PySem.W.Frag) (H : Hp) (v : V) : Prop := (∃ zs cs, FGood K H v zs cs) ∨ (∃ t p1 p2 xs ys, v = .ref t ∧ SqT K H t [.ref p1, .ref p2] ∧ SqT K H p1 xs ∧ SqT K H p2 ys ∧ (xs.all flB = true ∧ ys.all flB = true) ∧ (xs.length ≤ 1000 ∧ ys.length ≤ 1000) ∧ (catB 0 xs = false ∨ catB 1 ys = false)) ∨
  ∃ t xs, v = .ref t ∧ SqT K H t xs ∧ xs.length ≠ 2
def NfV (K : PySem.W.Frag) (H : Hp) (v : V) : Prop := (∃ zs cs, FGood K H v zs cs) ∨ FBad K H v
theorem NfT.off {K : PySem.W.Frag} {S : List Addr} {H H' : Hp} {v : V} (h : NfT K H v) (o : Off S H H') : NfT K H' v := by
  rcases h with ⟨zs, cs, ⟨⟨t, p1, p2, rfl, h1, h2, h3⟩, l1, l2, l3⟩⟩ | ⟨t, p1, p2, xs, ys, rfl, h1, h2, h3, h4⟩ | ⟨t, xs, rfl, h1, h2⟩
  · exact .inl ⟨zs, cs, ⟨⟨t, p1, p2, rfl, o.seqT h1, o.seqT h2, o.seqT h3⟩, l1, l2, l3⟩⟩
  · exact .inr (.inl ⟨t, p1, p2, xs, ys, rfl, o.seqT h1, o.seqT h2, o.seqT h3, h4⟩)
  · exact .inr (.inr ⟨t, xs, rfl, o.seqT h1, h2⟩)
theorem NfT.new {K : PySem.W.Frag} {H : Hp} {q : Addr} {v : V} {o : HO} (h : NfT K H v) (hq : H q = none) : NfT K (upd H q o) v := h.off (Off.new (S := []) hq)
theorem NfT.nf {K : PySem.W.Frag} {H : Hp} {v : V} (h : NfT K H v) : NfV K H v := by
  rcases h with h | ⟨t, p1, p2, xs, ys, rfl, h1, h2, h3, ⟨f1, f2⟩, ⟨l1, l2⟩, h4⟩ | ⟨t, xs, rfl, h1, h2⟩
  · exact .inl h
  · refine .inr (.inl ⟨t, _, _, rfl, h1, .inl ⟨p1, xs, rfl, h2, f1, l1⟩, .inl ⟨p2, ys, rfl, h3, f2, l2⟩, ?_⟩)
    rcases h4 with h4 | h4
    · exact .inl (.inl ⟨p1, xs, rfl, h2, f1, l1, h4⟩)
    · exact .inr (.inl ⟨p2, ys, rfl, h3, f2, l2, h4⟩)
  · exact .inr (.inr (.inl ⟨t, xs, rfl, h1, h2⟩))
theorem natB_gVs : ∀ {xs : List V}, xs.all natB = true → ∃ zs : List Nat, xs = gV zs
  | [], _ => ⟨[], rfl⟩
  | x :: xs, h => by
    rw [List.all_cons, Bool.and_eq_true] at h
    obtain ⟨zs, rfl⟩ := natB_gVs h.2
    cases x with
    | int i =>
      have : (0 : Int) ≤ i := of_decide_eq_true h.1
      refine ⟨i.toNat :: zs, ?_⟩
      show V.int i :: gV zs = V.int ((i.toNat : Nat) : Int) :: gV zs
      rw [Int.toNat_of_nonneg this]
    | _ => cases h.1
theorem NfT.pair {K : PySem.W.Frag} {H : Hp} {t p1 p2 : Addr} {n m : Nat} (h : SqT K H t [.ref p1, .ref p2]) (h1 : FlT K H p1 n) (h2 : FlT K H p2 m) (hn : n ≤ 1000 ∧ m ≤ 1000) : NfT K H (.ref t) := by
  obtain ⟨xs, e1, e2, e3⟩ := h1
  obtain ⟨ys, f1, f2, f3⟩ := h2
  cases c1 : catB 0 xs with
  | false => exact .inr (.inl ⟨t, p1, p2, xs, ys, rfl, h, e1, f1, ⟨e2, f2⟩, ⟨by omega, by omega⟩, .inl c1⟩)
  | true =>
  cases c2 : catB 1 ys with
  | false => exact .inr (.inl ⟨t, p1, p2, xs, ys, rfl, h, e1, f1, ⟨e2, f2⟩, ⟨by omega, by omega⟩, .inr c2⟩)
  | true =>
    unfold catB at c1 c2
    rw [Bool.and_eq_true, Bool.and_eq_true] at c1 c2
    obtain ⟨⟨c3, c4⟩, c5⟩ := c1
    obtain ⟨⟨d3, d4⟩, d5⟩ := c2
    have c4 := of_decide_eq_true c4
    have d3 := of_decide_eq_true d3
    have d4 := of_decide_eq_true d4
    obtain ⟨zs, rfl⟩ := natB_gVs c5
    obtain ⟨cs, rfl⟩ := natB_gVs d5
    rw [gV_len] at c4 d3 d4
    exact .inl ⟨zs, cs, ⟨⟨t, p1, p2, rfl, h, e1, f1⟩, by omega, by omega, by omega⟩⟩
theorem NfT.len {K : PySem.W.Frag} {H : Hp} {t : Addr} {xs : List V} (h : SqT K H t xs) (hn : xs.length ≠ 2) : NfT K H (.ref t) := .inr (.inr ⟨t, xs, rfl, h, hn⟩)
end SH
end

section
/-! #### the walk's words -/
local macro_rules | `(tactic| walk_at "ne0") => `(tactic| first
  | assumption
  | (refine Ne.symm ?_; assumption))
local macro_rules | `(tactic| walk_at "ne") => `(tactic| first
  | assumption
  | (refine Ne.symm ?_; assumption)
  | (refine' L2.ne_of_none ?gx (by assumption); (case gx => walk_at "hp"))
  | (refine' Ne.symm (L2.ne_of_none ?gx (by assumption)); (case gx => walk_at "hp")))
local macro_rules | `(tactic| walk_at "hp") => `(tactic| first
  | assumption
  | exact L2.upd_same
  | (refine' SH.upd_new ?gh (by assumption); (case gh => walk_at "hp"))
  | (refine' (L2.upd_ne ?gn).trans ?gh; (case gn => walk_at "ne0"); (case gh => walk_at "hp"))
  | (refine' SH.Off.at (by assumption) ?gn ?gh; (case gn => walk_at "nin"); (case gh => walk_at "hp")))
local macro_rules | `(tactic| walk_at "nin") => `(tactic| first
  | exact SH.nin_nil
  | (refine SH.nin_cons ?_ ?_; (· walk_at "ne0"); (· walk_at "nin")))
local macro_rules | `(tactic| walk_at "sq") => `(tactic| first
  | assumption
  | (apply L2.SqL.of; (· walk_at "hp"))
  | (apply L2.SqT.of; (· walk_at "hp"))
  | (refine' SH.seqT_new ?gx (by assumption); (case gx => walk_at "sq"))
  | (refine' SH.seqL_new ?gx (by assumption); (case gx => walk_at "sq"))
  | (refine' SH.Off.seqT (by assumption) ?gx; (case gx => walk_at "sq"))
  | (refine' SH.Off.seqL (by assumption) ?gy ?gx; (case gx => walk_at "sq"); (case gy => walk_at "nin")))
local macro_rules | `(tactic| walk_at "kd") => `(tactic| first
  | assumption | exact SH.KdV.int _ | exact SH.KdV.bl _ | exact SH.KdV.str _ | exact SH.KdV.non
  | (apply SH.KdV.tup; (· walk_at "sq")) | (apply SH.KdV.lst; (· walk_at "sq")))
/-- a way that cannot be -/
local macro_rules | `(tactic| walk_at "no") => `(tactic| (exfalso; first | assumption | omega | contradiction | (simp_all; done)))
/-- one step -/
local macro_rules | `(tactic| walk_at "g1") => `(tactic| with_reducible first
  | refine SH.g_var (by with_unfolding_all rfl) ?_ | refine SH.g_c ?_ | refine SH.g_op ?_ | refine SH.g_un ?_ | refine SH.g_I0 ?_ | refine SH.g_U ?_
  | refine SH.g_eqI ?_ | refine SH.g_neI ?_ | refine SH.g_eqS ?_ | refine SH.g_neS ?_
  | refine SH.g_test ?_ | refine SH.g_B ?_ | refine SH.g_isB ?_ | refine SH.g_and ?_ | refine SH.g_or ?_ | refine SH.g_not ?_ | refine SH.g_andV ?_ | refine SH.g_orV ?_ | refine SH.g_notV ?_ | refine SH.g_ifE ?_ | refine SH.g_chain ?_
  | refine SH.g_nil ?_ | refine SH.g_cons ?_ | refine SH.g_tup ?_ | refine SH.g_lst ?_ | refine SH.g_call ?_ | refine SH.g_fld ?_ | refine SH.g_meth ?_ | refine SH.g_make ?_ | refine SH.g_cb ?_ | refine SH.g_bm ?_
  | refine SH.g_seq ?_ | refine SH.g_asg ?_ | refine SH.g_name ?_ | refine SH.g_drop ?_ | refine SH.g_ret ?_ | refine SH.g_retN ?_ | refine SH.g_next ?_ | refine SH.g_brk ?_ | refine SH.g_cnt ?_ | refine SH.g_ifs ?_ | refine SH.g_par ?_ | refine SH.g_par2 ?_ | refine SH.g_fldS ?_ | refine SH.g_raise ?_ | refine SH.g_rs ?_
  | refine SH.g_sub ?_ | refine SH.g_yes ?_ | refine SH.g_sl ?_ | refine SH.g_noPart ?_ | refine SH.g_part ?_ | refine SH.g_intO ?_ | refine SH.g_dget ?_ | refine SH.g_dput ?_ | refine SH.g_forR ?_ | refine SH.g_forL ?_ | refine SH.g_forT ?_ | refine SH.g_lcR ?_ | refine SH.g_lcL ?_ | refine SH.g_lcT ?_ | refine SH.g_gcons ?_ | refine SH.g_gnil ?_
  | refine SH.br_t ?_ | refine SH.br_f ?_
  | refine SH.g_int ?_ | refine SH.g_abs ?_ | refine SH.g_max2 ?_ | refine SH.g_min2 ?_)
local macro_rules | `(tactic| walk_at "g2") => `(tactic| first
  | walk_at "g1"
  | ((with_reducible refine' SH.g_isiInt ?ga ?gz); (case ga => walk_at "kd"))
  | ((with_reducible refine' SH.g_isiBool ?ga ?gz); (case ga => walk_at "kd"))
  | ((with_reducible refine' SH.g_isiStr ?ga ?gz); (case ga => walk_at "kd"))
  | ((with_reducible refine' SH.g_isiTup ?ga ?gz); (case ga => walk_at "kd"))
  | ((with_reducible refine' SH.g_ixT ?ga ?gb ?gz); (case ga => walk_at "sq"); (case gb => rfl))
  | ((with_reducible refine' SH.g_ixL ?ga ?gb ?gz); (case ga => walk_at "sq"); (case gb => first | rfl | (apply SH.atI_refs; assumption)))
  | ((with_reducible refine SH.br_F ?_ ?_); (· decide +kernel)) | ((with_reducible refine SH.br_T ?_ ?_); (· decide +kernel)) | ((with_reducible refine SH.br_NF ?_ ?_); (· decide +kernel)) | ((with_reducible refine SH.br_NT ?_ ?_); (· decide +kernel))
  | ((with_reducible refine' SH.g_gtup ?ga ?gb ?gz); (case ga => walk_at "sq"); (case gb => rfl))
  | ((with_reducible refine' SH.g_lenT ?ga ?gz); (case ga => walk_at "sq"))
  | ((with_reducible refine' SH.g_lenL ?ga ?gz); (case ga => walk_at "sq"))
  | ((with_reducible refine SH.g_mkT (SH.sz rfl) ?_); intro _ _)
  | ((with_reducible refine SH.g_mkL (SH.sz rfl) ?_); intro _ _)
  | ((with_reducible refine SH.g_dnew ?_); intro _ _)
  | ((with_reducible refine' SH.g_tupL ?ga ?gz); (case ga => walk_at "sq"); intro _ _)
  | ((with_reducible refine' SH.g_lstL ?ga ?gz); (case ga => walk_at "sq"); intro _ _)
  | ((with_reducible refine' SH.g_lstT ?ga ?gz); (case ga => walk_at "sq"); intro _ _)
  | ((with_reducible refine' SH.g_dgR ?ga ?gb ?gz); (case ga => walk_at "hp"); (case gb => walk_at "dv"))
  | ((with_reducible refine' SH.g_fldR ?ga ?gb ?gc ?gd ?gz); (case ga => walk_at "hp"); (case gb => walk_at "cl"); (case gc => walk_at "na"); (case gd => walk_at "fv"))
  | ((with_reducible refine' SH.g_insR ?ga ?gb ?gz); (case ga => walk_at "hp"); (case gb => walk_at "fn"))
  | ((with_reducible refine' SH.g_setL ?ga ?gb ?gz); (case ga => walk_at "hp"); (case gb => rfl))
  | ((with_reducible refine SH.g_I ?_ ?_); (· walk_at "ci"))
  | ((with_reducible refine' SH.g_slL ?ga ?gz); (case ga => walk_at "sq"); intro _ _)
  | ((with_reducible refine' SH.g_cat ?ga ?gb ?gc ?gz); (case ga => walk_at "hp"); (case gb => walk_at "hp"); (case gc => walk_at "ls"); intro _ _))
/-- the side conditions of numbers: a divisor, a factor -/
local macro_rules | `(tactic| walk_at "ci") => `(tactic| first
  | (show _ ≠ _; omega) | (show _ < _; omega) | (constructor <;> omega) | (refine Or.inr ⟨?_, ?_⟩ <;> (show _ < _; omega)) | (refine Or.inl ⟨?_, ?_⟩ <;> (show _ < _; omega)) | (refine ⟨?_, ?_, ?_⟩ <;> decide))
local macro_rules | `(tactic| walk_at "ls") => `(tactic| first | (show _ ≤ _; exact Nat.le_trans (by assumption) (by decide)) | (show _ ≤ _; exact Nat.le_trans (by simp; omega) (by decide : 1000 ≤ sizeLine)))
local macro_rules | `(tactic| walk_at "dv") => `(tactic| rfl)
local macro_rules | `(tactic| walk_at "fv") => `(tactic| rfl)
local macro_rules | `(tactic| walk_at "fn") => `(tactic| rfl)
local macro_rules | `(tactic| walk_at "cl") => `(tactic| assumption)
local macro_rules | `(tactic| walk_at "na") => `(tactic| assumption)
local macro_rules | `(tactic| walk_at "go") => `(tactic| repeat walk_at "g2")
/-- a way is split -/
local macro_rules | `(tactic| walk_at "br") => `(tactic| with_reducible first
  | refine SH.br_d (fun _ => ?_) (fun _ => ?_) | refine SH.br_nd (fun _ => ?_) (fun _ => ?_) | refine SH.br_b (fun _ => ?_) (fun _ => ?_))
/-- all ways -/
local macro_rules | `(tactic| walk_at "all") => `(tactic| repeat' first | walk_at "g2" | (walk_at "br" <;> try (walk_at "no")))
/-- a truth value is the other -/
local macro_rules | `(tactic| walk_at "bq") => `(tactic| first | rfl | (simp_all; done) | (simp_all; omega) | (simp only [decide_eq_true_eq, decide_eq_false_iff_not, Bool.and_eq_true, Bool.or_eq_true] at *; omega))
/-- what was tracked is as it was -/
local macro_rules | `(tactic| walk_at "of") => `(tactic| first
  | assumption
  | exact SH.Off.refl _ _
  | (refine' SH.Off.new2 ?gx (by assumption); (case gx => walk_at "of"))
  | (refine' SH.Off.mut ?gx (by assumption); (case gx => walk_at "of"))
  | (refine' SH.Off.trans' ?gx (by assumption) ?gy; (case gy => (intro _ h; (first | exact h | (simp at h; done) | (simp at h ⊢; simp [h]; done)))); (case gx => walk_at "of")))
/-- kinds; parts of tuples; stars -/
local macro_rules | `(tactic| walk_at "g2") => `(tactic| first
  | (with_reducible first | refine SH.br_ntt ?_ | refine SH.br_ntf ?_ | refine SH.br_k ?_ | refine SH.br_nk ?_ | refine SH.g_star ?_ | refine SH.g_forR2 ?_ | refine SH.g_lcZ ?_ | refine SH.g_enL ?_)
  | ((with_reducible refine' SH.g_slA ?ga ?gz); (case ga => walk_at "sq"); intro _ _ _ _)
  | ((with_reducible refine' SH.g_app' ?ga ?gb ?gz); (case ga => walk_at "hp"); (case gb => walk_at "lt"); intro _ _ _)
  | ((with_reducible refine' SH.g_bml ?ga ?gz); (case ga => walk_at "sq"))
  | ((with_reducible refine' SH.g_popF ?ga ?gz); (case ga => walk_at "hp"); intro _ _ _)
  | (with_reducible first | refine SH.g_pnil ?_ | refine SH.g_pcons ?_ | (refine SH.g_disp ?_; intro _ _))
  | ((with_reducible refine' SH.g_kw ?gz))
  | ((with_reducible refine SH.g_kwR rfl ?_)))
local macro_rules | `(tactic| walk_at "lt") => `(tactic| (rw [PySem.sizeLine_eq]; omega))
/-- the law's dice -/
local macro_rules | `(tactic| walk_at "dc") => `(tactic| first
  | assumption
  | (refine' SH.DiceAt.new ?gx (by assumption); (case gx => walk_at "dc"))
  | (refine' SH.DiceAt.off ?gx (by assumption) ?gy; (case gx => walk_at "dc"); (case gy => walk_at "nin")))
local macro_rules | `(tactic| walk_at "g2") => `(tactic| first
  | ((with_reducible refine' SH.g_roll ?ga ?gb ?gc ?gd ?gz); (case ga => walk_at "dc"); (case gb => omega); (case gc => omega); (case gd => omega); intro _ _ _ _ _ _))
/-- flat tuples -/
local macro_rules | `(tactic| walk_at "fl") => `(tactic| first
  | assumption
  | exact SH.FlT.of L2.upd_same rfl
  | (refine' SH.FlT.new ?gx (by assumption); (case gx => walk_at "fl"))
  | (refine' SH.FlT.off ?gx (by assumption); (case gx => walk_at "fl")))
local macro_rules | `(tactic| walk_at "nf") => `(tactic| first
  | assumption
  | (refine' SH.NfT.new ?gx (by assumption); (case gx => walk_at "nf"))
  | (refine' SH.NfT.off ?gx (by assumption); (case gx => walk_at "nf")))
local macro_rules | `(tactic| walk_at "of") => `(tactic| first
  | exact SH.Off.refl _ _
  | (refine' SH.Off.new2 ?gx (by assumption); (case gx => walk_at "of"))
  | (refine' SH.Off.trans ?gx (by assumption); (case gx => walk_at "of")))
local macro_rules | `(tactic| walk_at "g2") => `(tactic| first
  | ((with_reducible refine' SH.g_slF ?ga ?gz); (case ga => walk_at "fl"); intro _ _ _ _)
  | ((with_reducible refine' SH.g_catF ?ga ?gb ?gc ?gz); (case ga => walk_at "fl"); (case gb => walk_at "fl"); (case gc => (first | omega | (simp only [List.length_cons, List.length_nil]; omega))); intro _ _ _ _)
  | ((with_reducible refine' SH.g_lstF ?ga ?gz); (case ga => walk_at "fl"); intro _ _ _))
namespace SH
open PySem PySem.Spec PyProof.Rows L2
def spNf (K : PySem.W.Frag) : Sp := fun vs H Q _ => ∃ (a t p1 p2 : Addr) (c : Int) (zs cs : List Nat), vs = [.ref a, .ref t] ∧ DiceAt H a c ∧ c ≤ 100000000 ∧ SqT K H t [.ref p1, .ref p2] ∧ SqT K H p1 (gV zs) ∧ SqT K H p2 (gV cs) ∧ zs.length ≤ 100 ∧ 1 ≤ cs.length ∧ cs.length ≤ 100 ∧
  ∀ v H', NfV K H' v → DiceAt H' a (c + 3) → Off [a] H H' → Q v H'
section
variable {P : Program} {w : World} {K : PySem.W.Frag} {mg : Str → Option Value} {base : Heap}
set_option maxHeartbeats 2000000 in
theorem ok_law_near_fishing (T : Txt P w K mg) : DefOk P w K mg base "_law_near_fishing" 3 ["dice", "value"] (spNf K) := by
  refine T.d_law_near_fishing.ok sc_law_near_fishing (fun _ _ _ _ _ _ us hl => match us, hl with | [_, _], _ => rfl) (fun vs H Q E h => ?_) (fun f cdv A outer s H vs Q E hr h => ?_)
  · obtain ⟨a, t, p1, p2, c, zs, cs, rfl, _⟩ := h
    rfl
  · obtain ⟨a, t, p1, p2, c, zs, cs, rfl, hd, hc, ht, e1, e2, l1, l2, l3, q⟩ := h
    have B := T.blt
    have hu := hu_of hr
    have G_law_pick := ok_law_pick (base := base) T
    have G_law_roll := ok_law_roll (base := base) T
    refine ⟨_, (pss_cons (ps_asg (pv 1) (pg_tupK (K := K) (n := 2) rfl rfl (pgs_cons (pg_name (i := 2) sc_law_near_fishing.nd rfl (by first | exact Or.inl rfl | exact Or.inr rfl)) (pgs_cons (pg_name (i := 3) sc_law_near_fishing.nd rfl (by first | exact Or.inl rfl | exact Or.inr rfl)) pgs_nil))))
  (pss_cons (ps_par (i := 4) (j := 5) (by rfl) sc_law_near_fishing.nd rfl rfl (by decide) rfl rfl (pa_cons (pe_df G_law_roll (hr.mono (by decide)) (L2N.passes_call (L2N.takes_of rfl rfl rfl rfl) fun _ _ _ _ z => z) (pa_cons (pv 0) (pa_cons (pe_callB (c_lenK (K := K) rfl) (by rfl) B.b_len PySem.boot_len (pa_cons (pv 3) pa_nil)) pa_nil))) (pa_cons (pe_df G_law_pick (hr.mono (by decide)) (L2N.passes_call (L2N.takes_of rfl rfl rfl rfl) fun _ _ _ _ z => z) (pa_cons (pv 0) (pa_cons (pe_lst (pa_cons pe_int (pa_cons (pe_un un_neg pe_int) pa_nil))) pa_nil))) pa_nil)) (by rfl))
  (pss_cons (ps_set (i := 6) sc_law_near_fishing.nd rfl (by first | exact Or.inl rfl | exact Or.inr rfl) (pe_op (op_catAK (K := K) rfl) (pe_op (op_catAK (K := K) rfl) (pe_slice (sl_tupAK (K := K) rfl) (pv 3) po_none (po_some (pv 4))) (pe_tup (pa_cons (pe_callB (c_max2 rfl) (by rfl) B.b_max (by decide +kernel) (pa_cons pe_int (pa_cons (pe_op op_add (pe_ix (ix_tupK (K := K) rfl) (pv 3) (pv 4) (fun _ _ => rfl)) (pv 5)) pa_nil))) pa_nil))) (pe_slice (sl_tupAK (K := K) rfl) (pv 3) (po_some (pe_op op_add (pv 4) pe_int)) po_none)))
  (pss_cons (ps_set (i := 7) sc_law_near_fishing.nd rfl (by first | exact Or.inl rfl | exact Or.inr rfl) (pe_lst (pa_cons (pe_tup (pa_cons (pv 2) (pa_cons (pv 6) pa_nil))) (pa_cons (pe_tup (pa_cons (pv 2) (pa_cons (pe_op (op_catAK (K := K) rfl) (pv 3) (pv 3)) pa_nil))) (pa_cons (pe_tup (pa_cons (pe_op (op_catAK (K := K) rfl) (pv 2) (pv 3)) (pa_cons (pv 3) pa_nil))) (pa_cons (pe_tup (pa_cons (pv 2) (pa_cons (pe_slice (sl_tupAK (K := K) rfl) (pv 3) (po_some pe_int) po_none) pa_nil))) (pa_cons (pe_tup (pa_cons (pe_slice (sl_tupAK (K := K) rfl) (pv 2) po_none (po_some (pe_un un_neg pe_int))) (pa_cons (pv 3) pa_nil))) (pa_cons (pe_tup (pa_cons (pv 2) (pa_cons (pe_op (op_catAK (K := K) rfl) (pe_slice (sl_tupAK (K := K) rfl) (pv 3) (po_some pe_int) po_none) (pe_slice (sl_tupAK (K := K) rfl) (pv 3) po_none (po_some pe_int))) pa_nil))) pa_nil))))))))
  (pss_cons (ps_set (i := 7) sc_law_near_fishing.nd rfl (by first | exact Or.inl rfl | exact Or.inr rfl) (pe_op op_cat (pv 7) (pe_lst (pa_cons (pe_tup (pa_cons (pe_op (op_catAK (K := K) rfl) (pv 2) (pe_slice (sl_tupAK (K := K) rfl) (pv 3) po_none (po_some pe_int))) (pa_cons (pe_op (op_catAK (K := K) rfl) (pe_slice (sl_tupAK (K := K) rfl) (pv 3) (po_some pe_int) po_none) (pe_slice (sl_tupAK (K := K) rfl) (pv 3) po_none (po_some pe_int))) pa_nil))) (pa_cons (pe_callTy (c_lstK (K := K) rfl) (by rfl) B.b_list (by decide +kernel) (pa_cons (pv 1) pa_nil)) (pa_cons (pe_tup (pa_cons (pe_callTy (c_lstK (K := K) rfl) (by rfl) B.b_list (by decide +kernel) (pa_cons (pv 2) pa_nil)) (pa_cons (pv 3) pa_nil))) (pa_cons pe_non (pa_cons (pe_tup (pa_cons (pv 2) pa_nil)) (pa_cons (pe_tup (pa_cons (pv 2) (pa_cons (pe_tup pa_nil) pa_nil))) (pa_cons (pe_tup (pa_cons (pe_op (op_repB (K := K) rfl) (pe_tup (pa_cons pe_int pa_nil)) pe_int) (pa_cons (pv 3) pa_nil))) (pa_cons (pe_tup (pa_cons (pv 2) (pa_cons (pe_op (op_catAK (K := K) rfl) (pv 3) (pe_tup (pa_cons pe_bl pa_nil))) pa_nil))) pa_nil)))))))))))
  (pss_one (ps_ret (pe_df G_law_pick (hr.mono (by decide)) (L2N.passes_call (L2N.takes_of rfl rfl rfl rfl) fun _ _ _ _ z => z) (pa_cons (pv 0) (pa_cons (pv 7) pa_nil)))))))))), ?_⟩
    have ew : (gV cs).length = cs.length := gV_len cs
    walk_at "go"
    rename_i at' H1 a0 a1 d1 o1 pB hpB
    refine g_pick (ns := [1, -1]) (-1) 1 hpB d1 (by omega) (fun k hk => ?_) (by simp) (by simp) fun y H2 hyk y0 y1 d2 o2 => ?_
    · simp only [List.mem_cons, List.not_mem_nil, or_false] at hk
      rcases hk with rfl | rfl <;> omega
    have o02 : Off [a] H H2 := (o1.trans (Off.new hpB)).trans o2
    have ht2 := o02.seqT ht
    have h12 := o02.seqT e1
    have h22 := o02.seqT e2
    have f1 : FlT K H2 p1 100 := .of2 h12 (flB_gV zs) (by rw [gV_len]; omega)
    have f2 : FlT K H2 p2 100 := .of2 h22 (flB_gV cs) (by rw [gV_len]; omega)
    clear hyk d1 o1 o2
    walk_at "go"
    rename_i q1 H3 f3 o3
    obtain ⟨v1, hv1, hm1, _⟩ := atI_nat' (xs := gV cs) a0 a1
    obtain ⟨z, rfl⟩ : ∃ z : Int, v1 = .int z := by
      obtain ⟨z, _, rfl⟩ := List.mem_map.mp hm1
      exact ⟨z, rfl⟩
    refine g_ixT (o3.seqT h22) hv1 ?_
    walk_at "go"
    rename_i pA hA pB HB fB oB pC HC fC oC pD HD fD oD t1 h1 pE HE fE oE t2 h2 pF HF fF oF t3 h3 pG HG fG oG t4 h4 pH HH fH oH t5 h5 pI HI fI oI pJ HJ fJ oJ pK HK fK oK t6 h6 lO hlO pL HL fL oL pM HM fM oM pN HN fN oN pV HV fV oV pP HP fP oPp t7 h7 l8 h8 xs9 l9 h9 t9 h9' t11 h11 e12 he12 t12 h12' z0 hz0
    have n1 : NfT K (upd HD t1 (.tup [.ref p1, .ref pD])) (.ref t1) := .pair (.of upd_same) (by walk_at "fl") (by walk_at "fl") ⟨by omega, by simp⟩
    have n2 : NfT K (upd HE t2 (.tup [.ref p1, .ref pE])) (.ref t2) := .pair (.of upd_same) (by walk_at "fl") (by walk_at "fl") ⟨by omega, by omega⟩
    have n3 : NfT K (upd HF t3 (.tup [.ref pF, .ref p2])) (.ref t3) := .pair (.of upd_same) (by walk_at "fl") (by walk_at "fl") ⟨by omega, by omega⟩
    have n4 : NfT K (upd HG t4 (.tup [.ref p1, .ref pG])) (.ref t4) := .pair (.of upd_same) (by walk_at "fl") (by walk_at "fl") ⟨by omega, by omega⟩
    have n5 : NfT K (upd HH t5 (.tup [.ref pH, .ref p2])) (.ref t5) := .pair (.of upd_same) (by walk_at "fl") (by walk_at "fl") ⟨by omega, by omega⟩
    have n6 : NfT K (upd HK t6 (.tup [.ref p1, .ref pK])) (.ref t6) := .pair (.of upd_same) (by walk_at "fl") (by walk_at "fl") ⟨by omega, by omega⟩
    have n7 : NfT K (upd HP t7 (.tup [.ref pM, .ref pP])) (.ref t7) := .pair (.of upd_same) (by walk_at "fl") (by walk_at "fl") ⟨by omega, by omega⟩
    refine g_repB (.of upd_same) (by simp) (by omega) (by omega) (by simp) fun p13 h13 => ?_
    have ha2 : H2 a ≠ none := by
      obtain ⟨_, _, _, h, _⟩ := d2
      rw [h]
      exact fun z => by cases z
    have oP7 : Off [] H2 (upd HP t7 (.tup [.ref pM, .ref pP])) := by walk_at "of"
    have nl8 : V.ref l8 ≠ V.ref a := fun z => by
      cases z
      exact ha2 (oP7.back h8)
    have nl9 : V.ref l9 ≠ V.ref a := fun z => by
      cases z
      exact ha2 ((oP7.new2 h8).back h9)
    obtain ⟨HQ, eHQ⟩ : ∃ HQ, HQ = (upd (upd (upd (upd (upd (upd (upd (upd (upd HP t7 (HO.tup [.ref pM, .ref pP])) l8 (HO.lst [.ref p1, .ref p2])) l9 (HO.lst xs9)) t9 (HO.tup [.ref l9, .ref p2])) t11 (HO.tup [.ref p1])) e12 (HO.tup [])) t12 (HO.tup [.ref p1, .ref e12])) z0 (HO.tup [.int 0])) p13 (HO.tup (List.replicate (201 : Int).toNat [V.int 0]).flatten)) := ⟨_, rfl⟩
    have oQ : Off [] H2 HQ := by rw [eHQ]; walk_at "of"
    have m1 : NfT K HQ (.ref t1) := by rw [eHQ]; walk_at "nf"
    have m2 : NfT K HQ (.ref t2) := by rw [eHQ]; walk_at "nf"
    have m3 : NfT K HQ (.ref t3) := by rw [eHQ]; walk_at "nf"
    have m4 : NfT K HQ (.ref t4) := by rw [eHQ]; walk_at "nf"
    have m5 : NfT K HQ (.ref t5) := by rw [eHQ]; walk_at "nf"
    have m6 : NfT K HQ (.ref t6) := by rw [eHQ]; walk_at "nf"
    have m7 : NfT K HQ (.ref t7) := by rw [eHQ]; walk_at "nf"
    have m8 : HQ l8 = some (.lst [.ref p1, .ref p2]) := by rw [eHQ]; walk_at "hp"
    have m9 : HQ t9 = some (.tup [.ref l9, .ref p2]) := by rw [eHQ]; walk_at "hp"
    have m9l : HQ l9 = some (.lst xs9) := by rw [eHQ]; walk_at "hp"
    have m11 : HQ t11 = some (.tup [.ref p1]) := by rw [eHQ]; walk_at "hp"
    have m12 : HQ t12 = some (.tup [.ref p1, .ref e12]) := by rw [eHQ]; walk_at "hp"
    have m12e : HQ e12 = some (.tup []) := by rw [eHQ]; walk_at "hp"
    have m13 : HQ p13 = some (.tup (List.replicate (201 : Int).toNat [V.int 0]).flatten) := by rw [eHQ]; exact upd_same
    have mO : HQ lO = some (.lst [.ref t1, .ref t2, .ref t3, .ref t4, .ref t5, .ref t6]) := by rw [eHQ]; walk_at "hp"
    rw [← eHQ]
    have f1 := f1.off oQ
    have f2 := f2.off oQ
    have h22 := oQ.seqT h22
    have d2 := d2.off oQ nin_nil
    have o02 := o02.trans (oQ.mono fun _ z => absurd z (by simp))
    have ha : HQ a ≠ none := fun z => ha2 (oQ.back z)
    have f13 : FlT K HQ p13 201 := .of2 (.of m13) (by rfl) (Nat.le_of_ble_eq_true rfl)
    clear oP7 n1 n2 n3 n4 n5 n6 n7 m13 h13 eHQ hz0 h12' he12 h11 h9' h9 h8 h7 oPp fP fV oV fN oN fM oM fL oL hlO h6 fK oK fJ oJ fI oI h5 fH oH h4 fG oG h3 fF oF h2 fE oE h1 fD oD fC oC fB oB hA oQ ha2
    walk_at "go"
    rename_i t13 h13 b14 hb14 p14 HR f14 oR t14 h14 lB hlB
    have m11' : NfT K HQ (.ref t11) := .len (.of m11) (by simp)
    have m12' : NfT K HQ (.ref t12) := .pair (.of m12) f1 (.of m12e rfl) ⟨by omega, by simp⟩
    have m13 : NfT K (upd HQ t13 (.tup [.ref p13, .ref p2])) (.ref t13) := .pair (.of upd_same) (f13.new h13) (f2.new h13) ⟨by omega, by omega⟩
    have oQR : Off [] HQ HR := ((Off.new h13).new2 hb14).trans oR
    have m14 : NfT K (upd HR t14 (.tup [.ref p1, .ref p14])) (.ref t14) := .pair (.of upd_same) ((f1.off oQR).new h14) (f14.new h14) ⟨by omega, by simp⟩
    have oS : Off [] HQ (upd (upd HR t14 (.tup [.ref p1, .ref p14])) lB (.lst [V.ref t7, .ref l8, .ref t9, .non, .ref t11, .ref t12, .ref t13, .ref t14])) := (oQR.new2 h14).new2 hlB
    have m13' : NfT K (upd (upd HR t14 (.tup [.ref p1, .ref p14])) lB (.lst [V.ref t7, .ref l8, .ref t9, .non, .ref t11, .ref t12, .ref t13, .ref t14])) (.ref t13) := (((m13.new hb14).off oR).new h14).new hlB
    have m14' : NfT K (upd (upd HR t14 (.tup [.ref p1, .ref p14])) lB (.lst [V.ref t7, .ref l8, .ref t9, .non, .ref t11, .ref t12, .ref t13, .ref t14])) (.ref t14) := m14.new hlB
    refine g_cat (oS.at nin_nil mO) upd_same (by rw [sizeLine_eq]; simp) fun pz hpz => ?_
    have oT := oS.new2 (o := HO.lst ([V.ref t1, .ref t2, .ref t3, .ref t4, .ref t5, .ref t6] ++ [V.ref t7, .ref l8, .ref t9, .non, .ref t11, .ref t12, .ref t13, .ref t14])) hpz
    have nez : a ≠ pz := fun e => ha (oS.back (by rw [e]; exact hpz))
    walk_at "go"
    refine ⟨a, pz, c + 1 + 1, _, rfl, d2.off oT nin_nil, by omega, .of upd_same, by simp, by simp, nez, fun v HF hv dF oF => q v HF ?_ (dF.mono (by omega)) ((o02.trans (oT.mono fun _ z => absurd z (by simp))).trans oF)⟩
    have na8 : l8 ∉ [a] := fun h => nl8 (by rw [List.mem_singleton.mp h])
    have na9 : l9 ∉ [a] := fun h => nl9 (by rw [List.mem_singleton.mp h])
    have nf : ∀ {v : V}, NfT K HQ v → NfV K HF v := fun h => ((h.off oT).off oF).nf
    simp only [List.mem_append, List.mem_cons, List.not_mem_nil, or_false] at hv
    rcases hv with (rfl | rfl | rfl | rfl | rfl | rfl) | rfl | rfl | rfl | rfl | rfl | rfl | rfl | rfl
    · exact nf m1
    · exact nf m2
    · exact nf m3
    · exact nf m4
    · exact nf m5
    · exact nf m6
    · exact nf m7
    · exact .inr (.inr (.inr ⟨.lst, .lst (.of (oF.at na8 (oT.at nin_nil m8))), by decide⟩))
    · obtain ⟨xs, e1, e2, e3⟩ := (f2.off oT).off oF
      have kl : KdV K HF (.ref l9) .lst := .lst (.of (oF.at na9 (oT.at nin_nil m9l)))
      exact .inr (.inl ⟨t9, _, _, rfl, oF.seqT (oT.seqT (.of m9)), .inr ⟨.lst, kl, by decide⟩, .inl ⟨p2, xs, rfl, e1, e2, by omega⟩, .inl (.inr ⟨.lst, kl, by decide⟩)⟩)
    · exact .inr (.inr (.inr ⟨.non, .non, by decide⟩))
    · exact nf m11'
    · exact nf m12'
    · exact ((m13'.new hpz).off oF).nf
    · exact ((m14'.new hpz).off oF).nf
end
end SH
end

section
/-! #### the walk's words -/
local macro_rules | `(tactic| walk_at "ne0") => `(tactic| first
  | assumption
  | (refine Ne.symm ?_; assumption))
local macro_rules | `(tactic| walk_at "ne") => `(tactic| first
  | assumption
  | (refine Ne.symm ?_; assumption)
  | (refine' L2.ne_of_none ?gx (by assumption); (case gx => walk_at "hp"))
  | (refine' Ne.symm (L2.ne_of_none ?gx (by assumption)); (case gx => walk_at "hp")))
local macro_rules | `(tactic| walk_at "hp") => `(tactic| first
  | assumption
  | exact L2.upd_same
  | (refine' SH.upd_new ?gh (by assumption); (case gh => walk_at "hp"))
  | (refine' (L2.upd_ne ?gn).trans ?gh; (case gn => walk_at "ne0"); (case gh => walk_at "hp"))
  | (refine' SH.Off.at (by assumption) ?gn ?gh; (case gn => walk_at "nin"); (case gh => walk_at "hp")))
local macro_rules | `(tactic| walk_at "nin") => `(tactic| first
  | exact SH.nin_nil
  | (refine SH.nin_cons ?_ ?_; (· walk_at "ne0"); (· walk_at "nin")))
local macro_rules | `(tactic| walk_at "sq") => `(tactic| first
  | assumption
  | (apply L2.SqL.of; (· walk_at "hp"))
  | (apply L2.SqT.of; (· walk_at "hp"))
  | (refine' SH.seqT_new ?gx (by assumption); (case gx => walk_at "sq"))
  | (refine' SH.seqL_new ?gx (by assumption); (case gx => walk_at "sq"))
  | (refine' SH.Off.seqT (by assumption) ?gx; (case gx => walk_at "sq"))
  | (refine' SH.Off.seqL (by assumption) ?gy ?gx; (case gx => walk_at "sq"); (case gy => walk_at "nin")))
local macro_rules | `(tactic| walk_at "kd") => `(tactic| first
  | assumption | exact SH.KdV.int _ | exact SH.KdV.bl _ | exact SH.KdV.str _ | exact SH.KdV.non
  | (apply SH.KdV.tup; (· walk_at "sq")) | (apply SH.KdV.lst; (· walk_at "sq")))
/-- a way that cannot be -/
local macro_rules | `(tactic| walk_at "no") => `(tactic| (exfalso; first | assumption | omega | contradiction | (simp_all; done)))
/-- one step -/
local macro_rules | `(tactic| walk_at "g1") => `(tactic| with_reducible first
  | refine SH.g_var (by with_unfolding_all rfl) ?_ | refine SH.g_c ?_ | refine SH.g_op ?_ | refine SH.g_un ?_ | refine SH.g_I0 ?_ | refine SH.g_U ?_
  | refine SH.g_eqI ?_ | refine SH.g_neI ?_ | refine SH.g_eqS ?_ | refine SH.g_neS ?_
  | refine SH.g_test ?_ | refine SH.g_B ?_ | refine SH.g_isB ?_ | refine SH.g_and ?_ | refine SH.g_or ?_ | refine SH.g_not ?_ | refine SH.g_andV ?_ | refine SH.g_orV ?_ | refine SH.g_notV ?_ | refine SH.g_ifE ?_ | refine SH.g_chain ?_
  | refine SH.g_nil ?_ | refine SH.g_cons ?_ | refine SH.g_tup ?_ | refine SH.g_lst ?_ | refine SH.g_call ?_ | refine SH.g_fld ?_ | refine SH.g_meth ?_ | refine SH.g_make ?_ | refine SH.g_cb ?_ | refine SH.g_bm ?_
  | refine SH.g_seq ?_ | refine SH.g_asg ?_ | refine SH.g_name ?_ | refine SH.g_drop ?_ | refine SH.g_ret ?_ | refine SH.g_retN ?_ | refine SH.g_next ?_ | refine SH.g_brk ?_ | refine SH.g_cnt ?_ | refine SH.g_ifs ?_ | refine SH.g_par ?_ | refine SH.g_par2 ?_ | refine SH.g_fldS ?_ | refine SH.g_raise ?_ | refine SH.g_rs ?_
  | refine SH.g_sub ?_ | refine SH.g_yes ?_ | refine SH.g_sl ?_ | refine SH.g_noPart ?_ | refine SH.g_part ?_ | refine SH.g_intO ?_ | refine SH.g_dget ?_ | refine SH.g_dput ?_ | refine SH.g_forR ?_ | refine SH.g_forL ?_ | refine SH.g_forT ?_ | refine SH.g_lcR ?_ | refine SH.g_lcL ?_ | refine SH.g_lcT ?_ | refine SH.g_gcons ?_ | refine SH.g_gnil ?_
  | refine SH.br_t ?_ | refine SH.br_f ?_
  | refine SH.g_int ?_ | refine SH.g_abs ?_ | refine SH.g_max2 ?_ | refine SH.g_min2 ?_)
local macro_rules | `(tactic| walk_at "g2") => `(tactic| first
  | walk_at "g1"
  | ((with_reducible refine' SH.g_isiInt ?ga ?gz); (case ga => walk_at "kd"))
  | ((with_reducible refine' SH.g_isiBool ?ga ?gz); (case ga => walk_at "kd"))
  | ((with_reducible refine' SH.g_isiStr ?ga ?gz); (case ga => walk_at "kd"))
  | ((with_reducible refine' SH.g_isiTup ?ga ?gz); (case ga => walk_at "kd"))
  | ((with_reducible refine' SH.g_ixT ?ga ?gb ?gz); (case ga => walk_at "sq"); (case gb => rfl))
  | ((with_reducible refine' SH.g_ixL ?ga ?gb ?gz); (case ga => walk_at "sq"); (case gb => first | rfl | (apply SH.atI_refs; assumption)))
  | ((with_reducible refine SH.br_F ?_ ?_); (· decide +kernel)) | ((with_reducible refine SH.br_T ?_ ?_); (· decide +kernel)) | ((with_reducible refine SH.br_NF ?_ ?_); (· decide +kernel)) | ((with_reducible refine SH.br_NT ?_ ?_); (· decide +kernel))
  | ((with_reducible refine' SH.g_gtup ?ga ?gb ?gz); (case ga => walk_at "sq"); (case gb => rfl))
  | ((with_reducible refine' SH.g_lenT ?ga ?gz); (case ga => walk_at "sq"))
  | ((with_reducible refine' SH.g_lenL ?ga ?gz); (case ga => walk_at "sq"))
  | ((with_reducible refine SH.g_mkT (SH.sz rfl) ?_); intro _ _)
  | ((with_reducible refine SH.g_mkL (SH.sz rfl) ?_); intro _ _)
  | ((with_reducible refine SH.g_dnew ?_); intro _ _)
  | ((with_reducible refine' SH.g_tupL ?ga ?gz); (case ga => walk_at "sq"); intro _ _)
  | ((with_reducible refine' SH.g_lstL ?ga ?gz); (case ga => walk_at "sq"); intro _ _)
  | ((with_reducible refine' SH.g_lstT ?ga ?gz); (case ga => walk_at "sq"); intro _ _)
  | ((with_reducible refine' SH.g_dgR ?ga ?gb ?gz); (case ga => walk_at "hp"); (case gb => walk_at "dv"))
  | ((with_reducible refine' SH.g_fldR ?ga ?gb ?gc ?gd ?gz); (case ga => walk_at "hp"); (case gb => walk_at "cl"); (case gc => walk_at "na"); (case gd => walk_at "fv"))
  | ((with_reducible refine' SH.g_insR ?ga ?gb ?gz); (case ga => walk_at "hp"); (case gb => walk_at "fn"))
  | ((with_reducible refine' SH.g_setL ?ga ?gb ?gz); (case ga => walk_at "hp"); (case gb => rfl))
  | ((with_reducible refine SH.g_I ?_ ?_); (· walk_at "ci"))
  | ((with_reducible refine' SH.g_slL ?ga ?gz); (case ga => walk_at "sq"); intro _ _)
  | ((with_reducible refine' SH.g_cat ?ga ?gb ?gc ?gz); (case ga => walk_at "hp"); (case gb => walk_at "hp"); (case gc => walk_at "ls"); intro _ _))
/-- the side conditions of numbers: a divisor, a factor -/
local macro_rules | `(tactic| walk_at "ci") => `(tactic| first
  | (show _ ≠ _; omega) | (show _ < _; omega) | (constructor <;> omega) | (refine Or.inr ⟨?_, ?_⟩ <;> (show _ < _; omega)) | (refine Or.inl ⟨?_, ?_⟩ <;> (show _ < _; omega)) | (refine ⟨?_, ?_, ?_⟩ <;> decide))
local macro_rules | `(tactic| walk_at "ls") => `(tactic| first | (show _ ≤ _; exact Nat.le_trans (by assumption) (by decide)) | (show _ ≤ _; exact Nat.le_trans (by simp; omega) (by decide : 1000 ≤ sizeLine)))
local macro_rules | `(tactic| walk_at "dv") => `(tactic| rfl)
local macro_rules | `(tactic| walk_at "fv") => `(tactic| rfl)
local macro_rules | `(tactic| walk_at "fn") => `(tactic| rfl)
local macro_rules | `(tactic| walk_at "cl") => `(tactic| assumption)
local macro_rules | `(tactic| walk_at "na") => `(tactic| assumption)
local macro_rules | `(tactic| walk_at "go") => `(tactic| repeat walk_at "g2")
/-- a way is split -/
local macro_rules | `(tactic| walk_at "br") => `(tactic| with_reducible first
  | refine SH.br_d (fun _ => ?_) (fun _ => ?_) | refine SH.br_nd (fun _ => ?_) (fun _ => ?_) | refine SH.br_b (fun _ => ?_) (fun _ => ?_))
/-- all ways -/
local macro_rules | `(tactic| walk_at "all") => `(tactic| repeat' first | walk_at "g2" | (walk_at "br" <;> try (walk_at "no")))
/-- a truth value is the other -/
local macro_rules | `(tactic| walk_at "bq") => `(tactic| first | rfl | (simp_all; done) | (simp_all; omega) | (simp only [decide_eq_true_eq, decide_eq_false_iff_not, Bool.and_eq_true, Bool.or_eq_true] at *; omega))
/-- what was tracked is as it was -/
local macro_rules | `(tactic| walk_at "of") => `(tactic| first
  | assumption
  | exact SH.Off.refl _ _
  | (refine' SH.Off.new2 ?gx (by assumption); (case gx => walk_at "of"))
  | (refine' SH.Off.mut ?gx (by assumption); (case gx => walk_at "of"))
  | (refine' SH.Off.trans' ?gx (by assumption) ?gy; (case gy => (intro _ h; (first | exact h | (simp at h; done) | (simp at h ⊢; simp [h]; done)))); (case gx => walk_at "of")))
/-- kinds; parts of tuples; stars -/
local macro_rules | `(tactic| walk_at "g2") => `(tactic| first
  | (with_reducible first | refine SH.br_ntt ?_ | refine SH.br_ntf ?_ | refine SH.br_k ?_ | refine SH.br_nk ?_ | refine SH.g_star ?_ | refine SH.g_forR2 ?_ | refine SH.g_lcZ ?_ | refine SH.g_enL ?_)
  | ((with_reducible refine' SH.g_slA ?ga ?gz); (case ga => walk_at "sq"); intro _ _ _ _)
  | ((with_reducible refine' SH.g_app' ?ga ?gb ?gz); (case ga => walk_at "hp"); (case gb => walk_at "lt"); intro _ _ _)
  | ((with_reducible refine' SH.g_bml ?ga ?gz); (case ga => walk_at "sq"))
  | ((with_reducible refine' SH.g_popF ?ga ?gz); (case ga => walk_at "hp"); intro _ _ _)
  | (with_reducible first | refine SH.g_pnil ?_ | refine SH.g_pcons ?_ | (refine SH.g_disp ?_; intro _ _))
  | ((with_reducible refine' SH.g_kw ?gz))
  | ((with_reducible refine SH.g_kwR rfl ?_)))
local macro_rules | `(tactic| walk_at "lt") => `(tactic| (rw [PySem.sizeLine_eq]; omega))
/-- the law's dice -/
local macro_rules | `(tactic| walk_at "dc") => `(tactic| first
  | assumption
  | (refine' SH.DiceAt.new ?gx (by assumption); (case gx => walk_at "dc"))
  | (refine' SH.DiceAt.off ?gx (by assumption) ?gy; (case gx => walk_at "dc"); (case gy => walk_at "nin")))
local macro_rules | `(tactic| walk_at "g2") => `(tactic| first
  | ((with_reducible refine' SH.g_roll ?ga ?gb ?gc ?gd ?gz); (case ga => walk_at "dc"); (case gb => omega); (case gc => omega); (case gd => omega); intro _ _ _ _ _ _))
namespace SH
open PySem PySem.Spec PyProof.Rows L2
theorem orb_le {g g' : List Nat} (G' : GrOk g') (hl : g'.length = g.length) (G : GrOk g) (hg : ∀ l, l < g.length → gAt g l ≤ gAt g' l) {s s' : Nat} (hss : s ≤ s') (hs' : s' < g.length) : ∀ k, orb g s k ≤ orb g' s' k
  | 0 => hss
  | k + 1 => by
    have h1 := G.orb_lt (s := s) (by omega) k
    have h2 := G'.orb_lt (s := s') (by omega) k
    exact Nat.le_trans (hg _ h1) (G'.mono _ _ (orb_le G' hl G hg hss hs' k) h2)
/-- more growth or a later start catches no less -/
theorem mean_mono {g g' : List Nat} (G : GrOk g) (G' : GrOk g') (hl : g'.length = g.length) (hg : ∀ l, l < g.length → gAt g l ≤ gAt g' l) {s s' : Nat} (hss : s ≤ s') (hs' : s' < g.length) :
    (bestM g (topOf g s)).1 * (bestM g' (topOf g' s')).2 ≤ (bestM g' (topOf g' s')).1 * (bestM g (topOf g s)).2 := by
  have it := G.isTop (s := s) (by omega)
  have it' := G'.isTop (s := s') (by omega)
  have m := bestM_ok G it.lt it.cl
  have m' := bestM_ok G' it'.lt it'.cl
  have hT : topOf g s ≤ topOf g' s' := by
    obtain ⟨k, _, e⟩ := it.mem
    have := orb_le G' hl G hg hss hs' k
    have := it'.le k
    omega
  obtain ⟨w, cs, c1, c2, c3, c4, c5⟩ := m.cyc
  obtain ⟨h, ph⟩ := m'.pot
  have lt' := it'.lt
  have b := beats ph it'.cl (fun l h => hg l (by omega)) (fun i j h1 h2 => G'.mono i j h1 (by omega)) (s := w) (by omega) c3 (by omega)
  have d0 := m.d0
  have d0' := m'.d0
  generalize (bestM g (topOf g s)).1 = N at *
  generalize (bestM g (topOf g s)).2 = D at *
  generalize (bestM g' (topOf g' s')).1 = N' at *
  generalize (bestM g' (topOf g' s')).2 = D' at *
  unfold wgt at c5 b
  have hn : (0 : Int) < (cs.length : Int) := by
    cases cs with
    | nil => exact absurd rfl c2
    | cons x y => rw [List.length_cons]; omega
  have h1 : (cs.length : Int) * N * D' ≤ sumN cs * D * D' := Int.mul_le_mul_of_nonneg_right (by omega) (by omega)
  have h2 : sumN cs * D' * D ≤ (cs.length : Int) * N' * D := Int.mul_le_mul_of_nonneg_right (by omega) (by omega)
  have e1 : sumN cs * D * D' = sumN cs * D' * D := by rw [Int.mul_assoc, Int.mul_comm D D', ← Int.mul_assoc]
  have h3 : (cs.length : Int) * (N * D') ≤ (cs.length : Int) * (N' * D) := by
    rw [← Int.mul_assoc, ← Int.mul_assoc]
    omega
  exact Int.le_of_mul_le_mul_left h3 hn
def moreN (g : List Nat) (k i : Nat) : Nat := min (g.length - 1) (if k ≤ i then max (gAt g i) (gAt g k + 1) else gAt g i)
def moreG (g : List Nat) (k : Nat) : List Nat := (List.range g.length).map (moreN g k)
theorem moreG_len (g : List Nat) (k : Nat) : (moreG g k).length = g.length := by unfold moreG; rw [List.length_map, List.length_range]
theorem moreG_at {g : List Nat} {k i : Nat} (h : i < g.length) : gAt (moreG g k) i = moreN g k i := by
  unfold gAt moreG
  rw [List.getD_eq_getElem?_getD, List.getElem?_map, List.getElem?_range h]
  rfl
theorem moreG_ok {g : List Nat} (G : GrOk g) {k : Nat} (hk : k < g.length) : GrOk (moreG g k) ∧ ∀ l, l < g.length → gAt g l ≤ gAt (moreG g k) l := by
  have n0 := G.n0
  refine ⟨⟨by rw [moreG_len]; exact n0, by rw [moreG_len]; exact G.n1, fun l h => ?_, fun i j hij hj => ?_⟩, fun l h => ?_⟩
  · rw [moreG_len] at h ⊢
    rw [moreG_at h]
    unfold moreN
    omega
  · rw [moreG_len] at hj
    rw [moreG_at (by omega), moreG_at hj]
    have := G.mono i j hij hj
    unfold moreN
    split <;> split <;> omega
  · rw [moreG_at h]
    have := G.lt l h
    unfold moreN
    split <;> omega
def spMore (K : PySem.W.Frag) : Sp := fun vs H Q _ => ∃ (a p m : Addr) (c : Int) (g : List Nat) (s : Nat), vs = [.ref a, .ref p, .int (s : Int), .ref m] ∧ DiceAt H a c ∧ c ≤ 100000000 ∧ SqT K H p (gV g) ∧ GrOk g ∧ s < g.length ∧
  SqT K H m [.int (bestM g (topOf g s)).1, .int (bestM g (topOf g s)).2] ∧ ∀ H', DiceAt H' a (c + 2) → Off [a] H H' → Q (.bl true) H'
section
variable {P : Program} {w : World} {K : PySem.W.Frag} {mg : Str → Option Value} {base : Heap}
set_option maxHeartbeats 1000000 in
theorem ok_law_more_right (T : Txt P w K mg) : DefOk P w K mg base "_law_more_right" 6 ["dice", "growth", "start", "mean"] (spMore K) := by
  refine T.d_law_more_right.ok sc_law_more_right (fun _ _ _ _ _ _ us hl => match us, hl with | [_, _, _, _], _ => rfl) (fun vs H Q E h => ?_) (fun f cdv A outer s H vs Q E hr h => ?_)
  · obtain ⟨a, p, m, c, g, s, rfl, _⟩ := h
    rfl
  · obtain ⟨a, p, m, c, g, s, rfl, hd, hc, hp, G, hs, hm, q⟩ := h
    have B := T.blt
    have hu := hu_of hr
    have G_law_roll := ok_law_roll (base := base) T
    have G_for_ever := ok_for_ever (base := base) T
    refine ⟨_, (pss_cons (ps_set (i := 4) sc_law_more_right.nd rfl (by first | exact Or.inl rfl | exact Or.inr rfl) (pe_df G_law_roll (hr.mono (by decide)) (L2N.passes_call (L2N.takes_of rfl rfl rfl rfl) fun _ _ _ _ z => z) (pa_cons (pv 0) (pa_cons (pe_callB (c_lenK (K := K) rfl) (by rfl) B.b_len PySem.boot_len (pa_cons (pv 1) pa_nil)) pa_nil))))
  (pss_cons (ps_set (i := 5) sc_law_more_right.nd rfl (by first | exact Or.inl rfl | exact Or.inr rfl) (pe_callTy (c_tupK (K := K) rfl) (by rfl) B.b_tuple (by decide +kernel) (pa_cons (pe_lc (own := [("stock", 9)]) rfl sc_law_more_right.nd (pi_range1 rfl B.b_range (pa_cons (pe_callB (c_lenK (K := K) rfl) (by rfl) B.b_len PySem.boot_len (pa_cons (pv 1) pa_nil)) pa_nil)) (blkOk_by (own := [("stock", 9)]) (N := ["dice", "growth", "start", "mean", "at", "more", "later", "one", "two", "stock"]) (sc := defScope s_law_more_right) (by decide +kernel)) (fun _ _ _ _ _ => (pg_name (i := 9) sc_law_more_right.nd rfl (by first | exact Or.inl rfl | exact Or.inr rfl))) (fun _ _ _ _ _ => pts_nil) (fun _ _ _ _ _ => (pe_callB (c_min2 rfl) (by rfl) B.b_min (by decide +kernel) (pa_cons (pe_op op_sub (pe_callB (c_lenK (K := K) rfl) (by rfl) B.b_len PySem.boot_len (pa_cons (pv 1) pa_nil)) pe_int) (pa_cons (pe_ifExp (pt_cmpR op_ge (pv 9) (pv 4) (nomark _)) (pe_callB (c_max2 rfl) (by rfl) B.b_max (by decide +kernel) (pa_cons (pe_ix (ix_tupK (K := K) rfl) (pv 1) (pv 9) (fun _ _ => rfl)) (pa_cons (pe_op op_add (pe_ix (ix_tupK (K := K) rfl) (pv 1) (pv 4) (fun _ _ => rfl)) pe_int) pa_nil))) (pe_ix (ix_tupK (K := K) rfl) (pv 1) (pv 9) (fun _ _ => rfl))) pa_nil))))) pa_nil)))
  (pss_cons (ps_set (i := 6) sc_law_more_right.nd rfl (by first | exact Or.inl rfl | exact Or.inr rfl) (pe_df G_law_roll (hr.mono (by decide)) (L2N.passes_call (L2N.takes_of rfl rfl rfl rfl) fun _ _ _ _ z => z) (pa_cons (pv 0) (pa_cons (pe_op op_sub (pe_callB (c_lenK (K := K) rfl) (by rfl) B.b_len PySem.boot_len (pa_cons (pv 1) pa_nil)) (pv 2)) pa_nil))))
  (pss_cons (ps_par (i := 7) (j := 8) (by rfl) sc_law_more_right.nd rfl rfl (by decide) rfl rfl (pa_cons (pe_df G_for_ever (hr.mono (by decide)) (L2N.passes_call (L2N.takes_of rfl rfl rfl rfl) fun _ _ _ _ z => z) (pa_cons (pv 5) (pa_cons (pv 2) pa_nil))) (pa_cons (pe_df G_for_ever (hr.mono (by decide)) (L2N.passes_call (L2N.takes_of rfl rfl rfl rfl) fun _ _ _ _ z => z) (pa_cons (pv 1) (pa_cons (pe_op op_add (pv 2) (pv 6)) pa_nil))) pa_nil)) (by rfl))
  (pss_one (ps_ret (pe_and (pe_cmpR op_ge (pe_op op_mul (pe_ix (ix_tupK (K := K) rfl) (pv 7) pe_int (fun _ _ => rfl)) (pe_ix (ix_tupK (K := K) rfl) (pv 3) pe_int (fun _ _ => rfl))) (pe_op op_mul (pe_ix (ix_tupK (K := K) rfl) (pv 3) pe_int (fun _ _ => rfl)) (pe_ix (ix_tupK (K := K) rfl) (pv 7) pe_int (fun _ _ => rfl))) (nomark _)) (pe_one (pe_cmpR op_ge (pe_op op_mul (pe_ix (ix_tupK (K := K) rfl) (pv 8) pe_int (fun _ _ => rfl)) (pe_ix (ix_tupK (K := K) rfl) (pv 3) pe_int (fun _ _ => rfl))) (pe_op op_mul (pe_ix (ix_tupK (K := K) rfl) (pv 3) pe_int (fun _ _ => rfl)) (pe_ix (ix_tupK (K := K) rfl) (pv 8) pe_int (fun _ _ => rfl))) (nomark _)))))))))), ?_⟩
    have n0 := G.n0
    have n1 := G.n1
    have eg := gV_len g
    walk_at "go"
    rename_i at' H1 a0 a1 d1 o1
    obtain ⟨k, rfl⟩ : ∃ k : Nat, at' = (k : Int) := ⟨at'.toNat, by omega⟩
    have hk : k < g.length := by omega
    have hp1 := o1.seqT hp
    walk_at "go"
    refine lcR_map (fun i => .int ((moreN g k i : Nat) : Int)) ⟨by omega, by omega⟩ (by rw [Int.toNat_natCast, sizeLine_eq]; omega) (fun _ => rfl) (fun i H2 hi o2 M kk => ?_) (fun D H2 hD o2 e2 => ?_)
    · rw [Int.toNat_natCast, eg] at hi
      have hp2 := o2.seqT hp1
      have hgi := G.lt i hi
      have hgk := G.lt k hk
      walk_at "go"
      refine br_d (fun c1 => ?_) (fun c1 => ?_)
      · walk_at "go"
        refine g_ixT hp2 (gV_at hi) ?_
        walk_at "go"
        refine g_ixT hp2 (gV_at hk) ?_
        walk_at "go"
        refine (?_ : V.int _ = V.int _) ▸ kk _ (.refl _ _)
        unfold moreN
        rw [eg, if_pos (by omega)]
        congr 1
        split <;> split <;> omega
      · walk_at "go"
        refine g_ixT hp2 (gV_at hi) ?_
        walk_at "go"
        refine (?_ : V.int _ = V.int _) ▸ kk _ (.refl _ _)
        unfold moreN
        rw [eg, if_neg (by omega)]
        congr 1
        split <;> omega
    rw [Int.toNat_natCast, eg] at e2
    have e2' : H2 D = some (.lst (gV (moreG g k))) := by
      rw [e2]
      unfold gV gI moreG
      rw [List.map_map, List.map_map]
      rfl
    walk_at "go"
    rename_i pm hpm la H3 l0 l1 d3 o3
    obtain ⟨v, rfl⟩ : ∃ v : Nat, la = (v : Int) := ⟨la.toNat, by omega⟩
    obtain ⟨G2, hle⟩ := moreG_ok G hk
    have sq2 : SqT K H3 pm (gV (moreG g k)) := o3.seqT (.of upd_same)
    have hlm := moreG_len g k
    have o13 : Off [a] H H3 := (o1.trans ((o2.new2 (o := HO.tup (gV (moreG g k))) hpm).mono fun _ z => absurd z (by simp))).trans o3
    refine ⟨_, _, rfl, .inl ⟨pm, moreG g k, s, ⟨rfl, rfl, sq2, G2, by omega⟩, fun H4 r1 e4 o4 => ?_⟩⟩
    have es : ((s : Nat) : Int) + ((v : Nat) : Int) = ((s + v : Nat) : Int) := by omega
    have o14 : Off [a] H H4 := o13.trans (o4.mono fun _ z => absurd z (by simp))
    walk_at "go"
    rw [es]
    refine ⟨_, _, rfl, .inl ⟨p, g, s + v, ⟨rfl, rfl, o14.seqT hp, G, by omega⟩, fun H5 r2 e5 o5 => ?_⟩⟩
    have o15 : Off [a] H H5 := o14.trans (o5.mono fun _ z => absurd z (by simp))
    have i1 := mean_mono G G2 hlm hle (Nat.le_refl s) hs
    have i2 := mean_mono G G rfl (fun _ _ => Nat.le_refl _) (Nat.le_add_right s v) (by omega)
    have k1 : SqT K H5 r1 [.int (bestM (moreG g k) (topOf (moreG g k) s)).1, .int (bestM (moreG g k) (topOf (moreG g k) s)).2] := o5.seqT (.of e4)
    have k2 : SqT K H5 r2 [.int (bestM g (topOf g (s + v))).1, .int (bestM g (topOf g (s + v))).2] := .of e5
    have k3 := o15.seqT hm
    have dF := (d3.off o4 nin_nil).off o5 nin_nil
    have t0 := G.isTop hs
    have t1 := G2.isTop (s := s) (by omega)
    have t2 := G.isTop (s := s + v) (by omega)
    have b0 := bestM_ok G t0.lt t0.cl
    have b1 := bestM_ok G2 t1.lt t1.cl
    have b2 := bestM_ok G t2.lt t2.cl
    have x1 := b0.d0
    have x2 := b0.d1
    have x3 := b1.d0
    have x4 := b1.d1
    have x5 := b2.d0
    have x6 := b2.d1
    have y0 := t0.lt
    have y1 := t1.lt
    have y2 := t2.lt
    clear b0 b1 b2 t0 t1 t2 e4 e5
    generalize (bestM g (topOf g s)).1 = N at *
    generalize (bestM g (topOf g s)).2 = D0 at *
    generalize (bestM (moreG g k) (topOf (moreG g k) s)).1 = N1 at *
    generalize (bestM (moreG g k) (topOf (moreG g k) s)).2 = D1 at *
    generalize (bestM g (topOf g (s + v))).1 = N2 at *
    generalize (bestM g (topOf g (s + v))).2 = D2 at *
    walk_at "go"
    rw [decide_eq_true i1]
    walk_at "go"
    rw [decide_eq_true i2]
    exact q H5 (dF.mono (by omega)) o15
end
end SH
end

section
namespace SH
open PySem PySem.Spec PyProof.Rows L2
/-! ### f(x, y, k = z) -/
def m21 {α : Type} : List α → List α → List α
  | [a, b], [c] => [a, b, c]
  | _, _ => []
theorem rel_m21 {vs : List V} {us : List Value} {zs : List V} {ws : List Value} (r : Vals vs us) (z : Vals zs ws) : Vals (m21 vs zs) (m21 us ws) := by
  cases r with
  | nil => exact .nil
  | cons r1 r => cases r with
    | nil => exact .nil
    | cons r2 r => cases r with
      | cons r3 r => exact .nil
      | nil => cases z with
        | nil => exact .nil
        | cons z1 z => cases z with
          | nil => exact .cons r1 (.cons r2 (.cons z1 .nil))
          | cons z2 z => exact .nil
theorem len_m21 {α : Type} {us ws : List α} (h : (m21 us ws).length = 3) : ∃ a b c, us = [a, b] ∧ ws = [c] := by
  unfold m21 at h
  split at h
  · exact ⟨_, _, _, rfl, rfl⟩
  · cases h
theorem pe_dfK1 {X : Cx} {x : Str} {k : Nat} {ps : List Str} {sp : Sp} {E : XK} {st : Stmt} {p pos : Pos} {e : Expr} {es : List Expr} {kws : List Keyword} {t tk : TA} {ks : List Str} {g : List Value → List Value → List Value} {gV : List V → List V → List V} (D : DefL X.prog X.w X.K X.mg X.base x k ps sp) (T : TopD X.K X.mg x st)
    (hb : ∀ (kV doc pm : Value) (an : Option Addr) (cdv ct : Value) (us ws : List Value), (g us ws).length = ps.length → bindArgs (PySem.W.fnOf x x (defArgs st) (defBody st) (defScope st) .none kV doc pm an cdv ct) ⟨us, ks.zip ws⟩ = pure (ps.zip (g us ws)))
    (hrel : ∀ {vs : List V} {us : List Value} {zs : List V} {ws : List Value}, Vals vs us → Vals zs ws → Vals (gV vs zs) (g us ws)) (hr : Room k X.A) (hx : Passes (L2N.CX X.prog X.w) X E) (ha : PA X (e :: es) t) (hkw : PK X kws tk) (hg : Gl X x := by rfl)
    (hall : (backToKw pos (keywordEach kws X.env)).all (·.1.isSome) = true := by rfl) (hks : (backToKw pos (keywordEach kws X.env)).filterMap (·.1) = ks := by rfl) (hdb : (x == ("__debug__" : Str)) = false := by decide)
    (he : starEach (e :: es) X.env = (false, eval e X.env) :: starEach es X.env := by rfl)
    (hpl : ((backTo pos (starEach (e :: es) X.env)).any (·.1) || (backToKw pos (keywordEach kws X.env)).any (·.1.isNone)) = false := by rfl) : PE X (.Call (.Name x p) (e :: es) kws pos) (tCallK sp gV E t tk) := by
  obtain ⟨f, fd, F, hm, hk, _, oc, od, osl, lk⟩ := D
  obtain ⟨f', fd', FD, hm'⟩ := T
  cases hm.symm.trans hm'
  obtain ⟨oc', od', dV, kV, doc, pm, an, cdv, ct, osl', rfl, lk', _, hD, _⟩ := FD.ex
  cases lk.symm.trans lk'
  rcases hD with ⟨_, rfl⟩ | ⟨e, _⟩
  · exact pe_callK F hr hg hm hk ⟨fun s us ws _ hl => BindsTo.of_eq (s := s) (hb kV doc pm an cdv ct us ws hl), hrel⟩ hx ha hkw hall hks hdb he hpl
  · exact absurd rfl e
section
variable {σ : L2.St} {H : Hp} {Q : VK} {sp : Sp} {gV : List V → List V → List V} {E : XK} {t tk : TA}
theorem g_callK (q : t σ H fun vs H1 => tk σ H1 fun zs H2 => sp (gV vs zs) H2 Q E) : tCallK sp gV E t tk σ H Q := q
end
end SH
end

section
/-! #### the walk's words -/
local macro_rules | `(tactic| walk_at "ne0") => `(tactic| first
  | assumption
  | (refine Ne.symm ?_; assumption))
local macro_rules | `(tactic| walk_at "ne") => `(tactic| first
  | assumption
  | (refine Ne.symm ?_; assumption)
  | (refine' L2.ne_of_none ?gx (by assumption); (case gx => walk_at "hp"))
  | (refine' Ne.symm (L2.ne_of_none ?gx (by assumption)); (case gx => walk_at "hp")))
local macro_rules | `(tactic| walk_at "hp") => `(tactic| first
  | assumption
  | exact L2.upd_same
  | (refine' SH.upd_new ?gh (by assumption); (case gh => walk_at "hp"))
  | (refine' (L2.upd_ne ?gn).trans ?gh; (case gn => walk_at "ne0"); (case gh => walk_at "hp"))
  | (refine' SH.Off.at (by assumption) ?gn ?gh; (case gn => walk_at "nin"); (case gh => walk_at "hp")))
local macro_rules | `(tactic| walk_at "nin") => `(tactic| first
  | exact SH.nin_nil
  | (refine SH.nin_cons ?_ ?_; (· walk_at "ne0"); (· walk_at "nin")))
local macro_rules | `(tactic| walk_at "sq") => `(tactic| first
  | assumption
  | (apply L2.SqL.of; (· walk_at "hp"))
  | (apply L2.SqT.of; (· walk_at "hp"))
  | (refine' SH.seqT_new ?gx (by assumption); (case gx => walk_at "sq"))
  | (refine' SH.seqL_new ?gx (by assumption); (case gx => walk_at "sq"))
  | (refine' SH.Off.seqT (by assumption) ?gx; (case gx => walk_at "sq"))
  | (refine' SH.Off.seqL (by assumption) ?gy ?gx; (case gx => walk_at "sq"); (case gy => walk_at "nin")))
local macro_rules | `(tactic| walk_at "kd") => `(tactic| first
  | assumption | exact SH.KdV.int _ | exact SH.KdV.bl _ | exact SH.KdV.str _ | exact SH.KdV.non
  | (apply SH.KdV.tup; (· walk_at "sq")) | (apply SH.KdV.lst; (· walk_at "sq")))
/-- a way that cannot be -/
local macro_rules | `(tactic| walk_at "no") => `(tactic| (exfalso; first | assumption | omega | contradiction | (simp_all; done)))
/-- one step -/
local macro_rules | `(tactic| walk_at "g1") => `(tactic| with_reducible first
  | refine SH.g_var (by with_unfolding_all rfl) ?_ | refine SH.g_c ?_ | refine SH.g_op ?_ | refine SH.g_un ?_ | refine SH.g_I0 ?_ | refine SH.g_U ?_
  | refine SH.g_eqI ?_ | refine SH.g_neI ?_ | refine SH.g_eqS ?_ | refine SH.g_neS ?_
  | refine SH.g_test ?_ | refine SH.g_B ?_ | refine SH.g_isB ?_ | refine SH.g_and ?_ | refine SH.g_or ?_ | refine SH.g_not ?_ | refine SH.g_andV ?_ | refine SH.g_orV ?_ | refine SH.g_notV ?_ | refine SH.g_ifE ?_ | refine SH.g_chain ?_
  | refine SH.g_nil ?_ | refine SH.g_cons ?_ | refine SH.g_tup ?_ | refine SH.g_lst ?_ | refine SH.g_call ?_ | refine SH.g_fld ?_ | refine SH.g_meth ?_ | refine SH.g_make ?_ | refine SH.g_cb ?_ | refine SH.g_bm ?_
  | refine SH.g_seq ?_ | refine SH.g_asg ?_ | refine SH.g_name ?_ | refine SH.g_drop ?_ | refine SH.g_ret ?_ | refine SH.g_retN ?_ | refine SH.g_next ?_ | refine SH.g_brk ?_ | refine SH.g_cnt ?_ | refine SH.g_ifs ?_ | refine SH.g_par ?_ | refine SH.g_par2 ?_ | refine SH.g_fldS ?_ | refine SH.g_raise ?_ | refine SH.g_rs ?_
  | refine SH.g_sub ?_ | refine SH.g_yes ?_ | refine SH.g_sl ?_ | refine SH.g_noPart ?_ | refine SH.g_part ?_ | refine SH.g_intO ?_ | refine SH.g_dget ?_ | refine SH.g_dput ?_ | refine SH.g_forR ?_ | refine SH.g_forL ?_ | refine SH.g_forT ?_ | refine SH.g_lcR ?_ | refine SH.g_lcL ?_ | refine SH.g_lcT ?_ | refine SH.g_gcons ?_ | refine SH.g_gnil ?_
  | refine SH.br_t ?_ | refine SH.br_f ?_
  | refine SH.g_int ?_ | refine SH.g_abs ?_ | refine SH.g_max2 ?_ | refine SH.g_min2 ?_)
local macro_rules | `(tactic| walk_at "g2") => `(tactic| first
  | walk_at "g1"
  | ((with_reducible refine' SH.g_isiInt ?ga ?gz); (case ga => walk_at "kd"))
  | ((with_reducible refine' SH.g_isiBool ?ga ?gz); (case ga => walk_at "kd"))
  | ((with_reducible refine' SH.g_isiStr ?ga ?gz); (case ga => walk_at "kd"))
  | ((with_reducible refine' SH.g_isiTup ?ga ?gz); (case ga => walk_at "kd"))
  | ((with_reducible refine' SH.g_ixT ?ga ?gb ?gz); (case ga => walk_at "sq"); (case gb => rfl))
  | ((with_reducible refine' SH.g_ixL ?ga ?gb ?gz); (case ga => walk_at "sq"); (case gb => first | rfl | (apply SH.atI_refs; assumption)))
  | ((with_reducible refine SH.br_F ?_ ?_); (· decide +kernel)) | ((with_reducible refine SH.br_T ?_ ?_); (· decide +kernel)) | ((with_reducible refine SH.br_NF ?_ ?_); (· decide +kernel)) | ((with_reducible refine SH.br_NT ?_ ?_); (· decide +kernel))
  | ((with_reducible refine' SH.g_gtup ?ga ?gb ?gz); (case ga => walk_at "sq"); (case gb => rfl))
  | ((with_reducible refine' SH.g_lenT ?ga ?gz); (case ga => walk_at "sq"))
  | ((with_reducible refine' SH.g_lenL ?ga ?gz); (case ga => walk_at "sq"))
  | ((with_reducible refine SH.g_mkT (SH.sz rfl) ?_); intro _ _)
  | ((with_reducible refine SH.g_mkL (SH.sz rfl) ?_); intro _ _)
  | ((with_reducible refine SH.g_dnew ?_); intro _ _)
  | ((with_reducible refine' SH.g_tupL ?ga ?gz); (case ga => walk_at "sq"); intro _ _)
  | ((with_reducible refine' SH.g_lstL ?ga ?gz); (case ga => walk_at "sq"); intro _ _)
  | ((with_reducible refine' SH.g_lstT ?ga ?gz); (case ga => walk_at "sq"); intro _ _)
  | ((with_reducible refine' SH.g_dgR ?ga ?gb ?gz); (case ga => walk_at "hp"); (case gb => walk_at "dv"))
  | ((with_reducible refine' SH.g_fldR ?ga ?gb ?gc ?gd ?gz); (case ga => walk_at "hp"); (case gb => walk_at "cl"); (case gc => walk_at "na"); (case gd => walk_at "fv"))
  | ((with_reducible refine' SH.g_insR ?ga ?gb ?gz); (case ga => walk_at "hp"); (case gb => walk_at "fn"))
  | ((with_reducible refine' SH.g_setL ?ga ?gb ?gz); (case ga => walk_at "hp"); (case gb => rfl))
  | ((with_reducible refine SH.g_I ?_ ?_); (· walk_at "ci"))
  | ((with_reducible refine' SH.g_slL ?ga ?gz); (case ga => walk_at "sq"); intro _ _)
  | ((with_reducible refine' SH.g_cat ?ga ?gb ?gc ?gz); (case ga => walk_at "hp"); (case gb => walk_at "hp"); (case gc => walk_at "ls"); intro _ _))
/-- the side conditions of numbers: a divisor, a factor -/
local macro_rules | `(tactic| walk_at "ci") => `(tactic| first
  | (show _ ≠ _; omega) | (show _ < _; omega) | (constructor <;> omega) | (refine Or.inr ⟨?_, ?_⟩ <;> (show _ < _; omega)) | (refine Or.inl ⟨?_, ?_⟩ <;> (show _ < _; omega)) | (refine ⟨?_, ?_, ?_⟩ <;> decide))
local macro_rules | `(tactic| walk_at "ls") => `(tactic| first | (show _ ≤ _; exact Nat.le_trans (by assumption) (by decide)) | (show _ ≤ _; exact Nat.le_trans (by simp; omega) (by decide : 1000 ≤ sizeLine)))
local macro_rules | `(tactic| walk_at "dv") => `(tactic| rfl)
local macro_rules | `(tactic| walk_at "fv") => `(tactic| rfl)
local macro_rules | `(tactic| walk_at "fn") => `(tactic| rfl)
local macro_rules | `(tactic| walk_at "cl") => `(tactic| assumption)
local macro_rules | `(tactic| walk_at "na") => `(tactic| assumption)
local macro_rules | `(tactic| walk_at "go") => `(tactic| repeat walk_at "g2")
/-- a way is split -/
local macro_rules | `(tactic| walk_at "br") => `(tactic| with_reducible first
  | refine SH.br_d (fun _ => ?_) (fun _ => ?_) | refine SH.br_nd (fun _ => ?_) (fun _ => ?_) | refine SH.br_b (fun _ => ?_) (fun _ => ?_))
/-- all ways -/
local macro_rules | `(tactic| walk_at "all") => `(tactic| repeat' first | walk_at "g2" | (walk_at "br" <;> try (walk_at "no")))
/-- a truth value is the other -/
local macro_rules | `(tactic| walk_at "bq") => `(tactic| first | rfl | (simp_all; done) | (simp_all; omega) | (simp only [decide_eq_true_eq, decide_eq_false_iff_not, Bool.and_eq_true, Bool.or_eq_true] at *; omega))
/-- what was tracked is as it was -/
local macro_rules | `(tactic| walk_at "of") => `(tactic| first
  | assumption
  | exact SH.Off.refl _ _
  | (refine' SH.Off.new2 ?gx (by assumption); (case gx => walk_at "of"))
  | (refine' SH.Off.mut ?gx (by assumption); (case gx => walk_at "of"))
  | (refine' SH.Off.trans' ?gx (by assumption) ?gy; (case gy => (intro _ h; (first | exact h | (simp at h; done) | (simp at h ⊢; simp [h]; done)))); (case gx => walk_at "of")))
/-- kinds; parts of tuples; stars -/
local macro_rules | `(tactic| walk_at "g2") => `(tactic| first
  | (with_reducible first | refine SH.br_ntt ?_ | refine SH.br_ntf ?_ | refine SH.br_k ?_ | refine SH.br_nk ?_ | refine SH.g_star ?_ | refine SH.g_forR2 ?_ | refine SH.g_lcZ ?_ | refine SH.g_enL ?_)
  | ((with_reducible refine' SH.g_slA ?ga ?gz); (case ga => walk_at "sq"); intro _ _ _ _)
  | ((with_reducible refine' SH.g_app' ?ga ?gb ?gz); (case ga => walk_at "hp"); (case gb => walk_at "lt"); intro _ _ _)
  | ((with_reducible refine' SH.g_bml ?ga ?gz); (case ga => walk_at "sq"))
  | ((with_reducible refine' SH.g_popF ?ga ?gz); (case ga => walk_at "hp"); intro _ _ _)
  | (with_reducible first | refine SH.g_pnil ?_ | refine SH.g_pcons ?_ | (refine SH.g_disp ?_; intro _ _))
  | ((with_reducible refine' SH.g_kw ?gz))
  | ((with_reducible refine SH.g_kwR rfl ?_)))
local macro_rules | `(tactic| walk_at "lt") => `(tactic| (rw [PySem.sizeLine_eq]; omega))
/-- the law's dice -/
local macro_rules | `(tactic| walk_at "dc") => `(tactic| first
  | assumption
  | (refine' SH.DiceAt.new ?gx (by assumption); (case gx => walk_at "dc"))
  | (refine' SH.DiceAt.off ?gx (by assumption) ?gy; (case gx => walk_at "dc"); (case gy => walk_at "nin")))
local macro_rules | `(tactic| walk_at "g2") => `(tactic| first
  | ((with_reducible refine' SH.g_roll ?ga ?gb ?gc ?gd ?gz); (case ga => walk_at "dc"); (case gb => omega); (case gc => omega); (case gd => omega); intro _ _ _ _ _ _))
namespace SH
open PySem PySem.Spec PyProof.Rows L2 LamX
theorem pair_shaped (i j : Int) : SeqAt.shaped (.tuple [.int i, .int j]) = true := ints_shapedT [i, j]
theorem pair_refl (i j : Int) : PyData.eqv (.tuple [.int i, .int j]) (.tuple [.int i, .int j]) = true := by
  have h := ints_shapedT [i, j]
  unfold SeqAt.shaped at h
  rw [Bool.and_eq_true] at h
  exact PySem.SeqAt.eqv_refl _ h.1
theorem g_nePair {K : PySem.W.Frag} {H : Hp} {Q : VK} {u p : Addr} {i j : Int} (h : SqT K H u [.int i, .int j]) (hp : SqT K H p [.int i, .int j]) (q : Q (.bl false) H) : rNeD K (.ref u) (.ref p) H Q :=
  g_neD (.tup h (ints_dpAll [i, j])) (.tup hp (ints_dpAll [i, j])) (pair_shaped i j) (pair_shaped i j) (by
    rw [show PyData.eqv (.tuple (List.map PyData.int [i, j])) (.tuple (List.map PyData.int [i, j])) = true from pair_refl i j]
    exact q)
theorem FBad.map {K : PySem.W.Frag} {S : List Addr} {H H' : Hp} {v : V} (h : FBad K H v) (o : Off S H H') (hk : ∀ x k, KdV K H x k → KdV K H' x k) : FBad K H' v := by
  have ca : ∀ {x : V}, CatA K H x → CatA K H' x := fun h => by
    rcases h with ⟨p, xs, e, h1, h2⟩ | ⟨k, h1, h2⟩
    · exact .inl ⟨p, xs, e, o.seqT h1, h2⟩
    · exact .inr ⟨k, hk _ _ h1, h2⟩
  have cn : ∀ {x : V} {l : Int}, CatN K H x l → CatN K H' x l := fun h => by
    rcases h with ⟨p, xs, e, h1, h2⟩ | ⟨k, h1, h2⟩
    · exact .inl ⟨p, xs, e, o.seqT h1, h2⟩
    · exact .inr ⟨k, hk _ _ h1, h2⟩
  rcases h with ⟨t, x, y, e, h1, h2, h3, h4⟩ | ⟨t, xs, e, h1, h2⟩ | ⟨k, h1, h2⟩
  · exact .inl ⟨t, x, y, e, o.seqT h1, ca h2, ca h3, h4.elim (fun z => .inl (cn z)) fun z => .inr (cn z)⟩
  · exact .inr (.inl ⟨t, xs, e, o.seqT h1, h2⟩)
  · exact .inr (.inr ⟨k, hk _ _ h1, h2⟩)
theorem FGood.off {K : PySem.W.Frag} {S : List Addr} {H H' : Hp} {v : V} {zs cs : List Nat} (h : FGood K H v zs cs) (o : Off S H H') : FGood K H' v zs cs := by
  obtain ⟨⟨t, p1, p2, e, h1, h2, h3⟩, l1, l2, l3⟩ := h
  exact ⟨⟨t, p1, p2, e, o.seqT h1, o.seqT h2, o.seqT h3⟩, l1, l2, l3⟩
theorem NfV.map {K : PySem.W.Frag} {S : List Addr} {H H' : Hp} {v : V} (h : NfV K H v) (o : Off S H H') (hk : ∀ x k, KdV K H x k → KdV K H' x k) : NfV K H' v := by
  rcases h with ⟨zs, cs, h⟩ | h
  · exact .inl ⟨zs, cs, h.off o⟩
  · exact .inr (h.map o hk)
theorem NwV.map {K : PySem.W.Frag} {S : List Addr} {H H' : Hp} {v : V} (h : NwV K H v) (o : Off S H H') (hk : ∀ x k, KdV K H x k → KdV K H' x k) : NwV K H' v := by
  rcases h with h | ⟨k, h1, h2⟩
  · exact .inl (h.off o)
  · exact .inr ⟨k, hk _ _ h1, h2⟩
theorem NfV.fv {K : PySem.W.Frag} {H : Hp} {v : V} (h : NfV K H v) (g : List Nat) (s : Nat) : ∃ o : Option (Int × Int), (∀ b, o = some b → 0 ≤ b.2 ∧ b.2 ≤ 200) ∧ ∀ H', Off [] H H' → FV K H' g s v o := by
  rcases h with ⟨zs, cs, h⟩ | h
  · refine ⟨fishO g s zs cs, fun b e => ?_, fun H' o => .inl ⟨zs, cs, h.off o, rfl⟩⟩
    unfold fishO at e
    have := h.l3
    split at e
    · cases e
      exact ⟨by show (0 : Int) ≤ (cs.length : Int); omega, by show ((cs.length : Nat) : Int) ≤ 200; omega⟩
    · cases e
  · exact ⟨none, (fun b e => by cases e), fun H' o => .inr ⟨h.map o fun _ _ k => k.offN o, rfl⟩⟩
theorem NwV.wv {K : PySem.W.Frag} {H : Hp} {v : V} (h : NwV K H v) (g : List Nat) (T : Nat) (N D : Int) : ∃ b : Prop, ∀ H', Off [] H H' → WorV K H' g T N D v b := by
  rcases h with ⟨p, ws, e, h1, h2⟩ | ⟨k, h1, h2⟩
  · exact ⟨WorP g T N D ws, fun H' o => .inl ⟨p, ws, e, o.seqT h1, h2, Iff.rfl⟩⟩
  · exact ⟨False, fun H' o => .inr ⟨k, h1.offN o, h2, id⟩⟩
theorem GroA.map {K : PySem.W.Frag} {S : List Addr} {H H' : Hp} {v : V} {b : Bool} (h : GroA K H v b) (o : Off S H H') (hk : ∀ x k, KdV K H x k → KdV K H' x k) : GroA K H' v b := by
  rcases h with ⟨p, xs, e, h1, h2⟩ | ⟨k, h1, h2⟩
  · exact .inl ⟨p, xs, e, o.seqT h1, h2⟩
  · exact .inr ⟨k, hk _ _ h1, h2⟩
theorem g_neB {H : Hp} {Q : VK} {a : Bool} (q : Q (.bl false) H) : rNe (.bl a) (.bl a) H Q := ⟨rfl, by rw [decide_eq_true rfl]; exact q⟩
def spRightH (P0 : Addr) : Sp := fun vs H Q _ => ∃ (a : Addr) (c : Int), vs = [.ref a] ∧ DiceAt H a c ∧ c ≤ 100000 ∧ TabS H P0 qR ∧ ∀ H', Off [a, P0] H H' → TabS H' P0 qR → Q (.bl true) H'
section
variable {P : Program} {w : World} {K : PySem.W.Frag} {mg : Str → Option Value} {base : Heap}
set_option maxHeartbeats 2000000 in
theorem ok_law_right (T : Txt P w K mg) {cR P0 : Addr} (hco : CodeOf K mg "_law_right" cR) (TB : TabB base mg cR P0) : DefOk P w K mg base "_law_right" 12 ["dice"] (spRightH P0) := by
  refine T.d_law_right.okT sc_law_right hco (fun _ _ _ _ _ _ us hl => match us, hl with | [_], _ => rfl) (fun vs H Q E h => ?_) (fun f A outer s H vs Q E hr h => ?_)
  · obtain ⟨a, c, rfl, _⟩ := h
    rfl
  · obtain ⟨a, c, rfl, hd, hc, htab, q⟩ := h
    have B := T.blt
    have hu := hu_of hr
    have G_law_h_growth := ok_law_h_growth (base := base) T
    have G_law_roll := ok_law_roll (base := base) T
    have G_law_h_fish := ok_law_h_fish (base := base) T
    have G_law_h_top := ok_law_h_top (base := base) T
    have G_for_ever := ok_for_ever (base := base) T
    have G_fishing := ok_fishing (base := base) T
    have G_worths := ok_worths (base := base) T
    have L_worths := okL_worths (base := base) T
    have G_law_pick := ok_law_pick (base := base) T
    obtain ⟨gR, cdR, GR⟩ := gets_refused T
    have G_law_is_frac := ok_law_is_frac (base := base) T
    have L_for_ever := okL_for_ever (base := base) T
    have G_top := ok_top (base := base) T
    have L_top := okL_top (base := base) T
    have G_law_h_worths := ok_law_h_worths (base := base) T
    have G_is_fishing := ok_is_fishing (base := base) T
    have G_is_worths := ok_is_worths (base := base) T
    have G_law_more_right := ok_law_more_right (base := base) T
    have G_law_near_fishing := ok_law_near_fishing (base := base) T
    have G_law_near_worths := ok_law_near_worths (base := base) T
    have L_is_fishing := okL_is_fishing (base := base) T
    have L_is_worths := okL_is_worths (base := base) T
    refine ⟨_, (pss_cons (ps_set (i := 12) sc_law_right.nd rfl (by first | exact Or.inl rfl | exact Or.inr rfl) (pe_df G_law_h_growth (hr.mono (by decide)) (L2N.passes_call (L2N.takes_of rfl rfl rfl rfl) fun _ _ _ _ z => z) (pa_cons (pv 0) pa_nil)))
  (pss_cons (ps_set (i := 1) sc_law_right.nd rfl (by first | exact Or.inl rfl | exact Or.inr rfl) (pe_df G_law_roll (hr.mono (by decide)) (L2N.passes_call (L2N.takes_of rfl rfl rfl rfl) fun _ _ _ _ z => z) (pa_cons (pv 0) (pa_cons (pe_callB (c_lenK (K := K) rfl) (by rfl) B.b_len PySem.boot_len (pa_cons (pv 12) pa_nil)) pa_nil))))
  (pss_cons (ps_par (i := 2) (j := 3) (by rfl) sc_law_right.nd rfl rfl (by decide) rfl rfl (pa_cons (pe_df G_law_h_top (hr.mono (by decide)) (L2N.passes_call (L2N.takes_of rfl rfl rfl rfl) fun _ _ _ _ z => z) (pa_cons (pv 12) (pa_cons (pv 1) pa_nil))) (pa_cons (pe_df G_for_ever (hr.mono (by decide)) (L2N.passes_call (L2N.takes_of rfl rfl rfl rfl) fun _ _ _ _ z => z) (pa_cons (pv 12) (pa_cons (pv 1) pa_nil))) pa_nil)) (by rfl))
  (pss_cons (ps_if (PW.pt (pw_or (pt_not (pt_val (pe_df G_law_is_frac (hr.mono (by decide)) (L2N.passes_call (L2N.takes_of rfl rfl rfl rfl) fun _ _ _ _ z => z) (pa_cons (pv 3) pa_nil)) (by intro _; rfl))) (pw_or (pt_cmpR op_lt (pe_ix (ix_tupK (K := K) rfl) (pv 3) pe_int (fun _ _ => rfl)) pe_int (nomark _)) (pw_or (pt_cmpR (op_neDK (K := K) rfl hr.units) (pe_dfK0 (ks := ["start", "growth"]) (g := sw) (gV := sw) L_for_ever T.d_for_ever (fun _ _ _ _ _ _ us hl => match us, hl with | [_, _], _ => rfl) (fun r l => rel_sw r l) (hr.mono (by decide)) (L2N.passes_call (L2N.takes_of rfl rfl rfl rfl) fun _ _ _ _ z => z) (pk_cons (pv 1) (pk_cons (pv 12) pk_nil))) (pv 3) (nomark _)) (pw_or (pt_cmpR op_ne (pe_df G_top (hr.mono (by decide)) (L2N.passes_call (L2N.takes_of rfl rfl rfl rfl) fun _ _ _ _ z => z) (pa_cons (pv 12) (pa_cons (pv 1) pa_nil))) (pv 2) (nomark _)) (pw_or1 (pt_cmpR op_ne (pe_dfK0 (ks := ["start", "growth"]) (g := sw) (gV := sw) L_top T.d_top (fun _ _ _ _ _ _ us hl => match us, hl with | [_, _], _ => rfl) (fun r l => rel_sw r l) (hr.mono (by decide)) (L2N.passes_call (L2N.takes_of rfl rfl rfl rfl) fun _ _ _ _ z => z) (pk_cons (pv 1) (pk_cons (pv 12) pk_nil))) (pv 2) (nomark _))))))))
    (pss_one (ps_ret pe_bl))
    pss_nil)
  (pss_cons (ps_par (i := 4) (j := 5) (by rfl) sc_law_right.nd rfl rfl (by decide) rfl rfl (pa_cons (pe_df G_fishing (hr.mono (by decide)) (L2N.passes_call (L2N.takes_of rfl rfl rfl rfl) fun _ _ _ _ z => z) (pa_cons (pv 12) (pa_cons (pv 1) pa_nil))) (pa_cons (pe_dfK0 (ks := ["start", "growth"]) (g := sw) (gV := sw) L_worths T.d_worths (fun _ _ _ _ _ _ us hl => match us, hl with | [_, _], _ => rfl) (fun r l => rel_sw r l) (hr.mono (by decide)) (L2N.passes_call (L2N.takes_of rfl rfl rfl rfl) fun _ _ _ _ z => z) (pk_cons (pv 1) (pk_cons (pv 12) pk_nil))) pa_nil)) (by rfl))
  (pss_cons (ps_set (i := 6) sc_law_right.nd rfl (by first | exact Or.inl rfl | exact Or.inr rfl) (pe_df G_law_h_fish (hr.mono (by decide)) (L2N.passes_call (L2N.takes_of rfl rfl rfl rfl) fun _ _ _ _ z => z) (pa_cons (pv 12) (pa_cons (pv 1) (pa_cons (pv 4) pa_nil)))))
  (pss_cons (ps_if (PW.pt (pw_or (pt_cmpR op_isN (pv 6) pe_non (nomark _)) (pw_or (pt_cmpR op_ne (pe_op op_mul (pe_ix (ix_tupK (K := K) rfl) (pv 6) pe_int (fun _ _ => rfl)) (pe_ix (ix_tupK (K := K) rfl) (pv 3) pe_int (fun _ _ => rfl))) (pe_op op_mul (pe_ix (ix_tupK (K := K) rfl) (pv 3) pe_int (fun _ _ => rfl)) (pe_ix (ix_tupK (K := K) rfl) (pv 6) pe_int (fun _ _ => rfl))) (nomark _)) (pw_or1 (pt_not (pt_val (pe_df G_law_h_worths (hr.mono (by decide)) (L2N.passes_call (L2N.takes_of rfl rfl rfl rfl) fun _ _ _ _ z => z) (pa_cons (pv 12) (pa_cons (pv 2) (pa_cons (pv 5) (pa_cons (pv 3) pa_nil))))) (by intro _; rfl)))))))
    (pss_one (ps_ret pe_bl))
    pss_nil)
  (pss_cons (ps_if (PW.pt (pw_or (pt_cmpR op_notBl (pe_df G_is_fishing (hr.mono (by decide)) (L2N.passes_call (L2N.takes_of rfl rfl rfl rfl) fun _ _ _ _ z => z) (pa_cons (pv 12) (pa_cons (pv 1) (pa_cons (pv 4) pa_nil)))) pe_bl (nomark _)) (pw_or (pt_cmpR op_notBl (pe_df G_is_worths (hr.mono (by decide)) (L2N.passes_call (L2N.takes_of rfl rfl rfl rfl) fun _ _ _ _ z => z) (pa_cons (pv 12) (pa_cons (pv 1) (pa_cons (pv 5) pa_nil)))) pe_bl (nomark _)) (pw_or1 (pt_not (pt_val (pe_df G_law_more_right (hr.mono (by decide)) (L2N.passes_call (L2N.takes_of rfl rfl rfl rfl) fun _ _ _ _ z => z) (pa_cons (pv 0) (pa_cons (pv 12) (pa_cons (pv 1) (pa_cons (pv 3) pa_nil))))) (by intro _; rfl)))))))
    (pss_one (ps_ret pe_bl))
    pss_nil)
  (pss_cons (ps_for (passes_of rfl) rfl (pi_range1 rfl B.b_range (pa_cons pe_int pa_nil)) (pg_name (i := 7) sc_law_right.nd rfl (by first | exact Or.inl rfl | exact Or.inr rfl))
    (pss_cons (ps_par (i := 8) (j := 9) (by rfl) sc_law_right.nd rfl rfl (by decide) rfl rfl (pa_cons (pe_df G_law_near_fishing (hr.mono (by decide)) (L2N.passes_call (L2N.takes_of rfl rfl rfl rfl) fun _ _ _ _ z => z) (pa_cons (pv 0) (pa_cons (pv 4) pa_nil))) (pa_cons (pe_df G_law_near_worths (hr.mono (by decide)) (L2N.passes_call (L2N.takes_of rfl rfl rfl rfl) fun _ _ _ _ z => z) (pa_cons (pv 0) (pa_cons (pv 5) pa_nil))) pa_nil)) (by rfl))
  (pss_cons (ps_set (i := 6) sc_law_right.nd rfl (by first | exact Or.inl rfl | exact Or.inr rfl) (pe_df G_law_h_fish (hr.mono (by decide)) (L2N.passes_call (L2N.takes_of rfl rfl rfl rfl) fun _ _ _ _ z => z) (pa_cons (pv 12) (pa_cons (pv 1) (pa_cons (pv 8) pa_nil)))))
  (pss_cut (ps_if (pt_cmpR op_ne (pe_dfK1 (ks := ["value"]) (g := m21) (gV := m21) L_is_fishing T.d_is_fishing (fun _ _ _ _ _ _ us ws hl => by obtain ⟨_, _, _, rfl, rfl⟩ := len_m21 hl; rfl) (fun r z => rel_m21 r z) (hr.mono (by decide)) (L2N.passes_call (L2N.takes_of rfl rfl rfl rfl) fun _ _ _ _ z => z) (pa_cons (pv 12) (pa_cons (pv 1) pa_nil)) (pk_cons (pv 8) pk_nil)) (pe_and (pe_cmpR op_notN (pv 6) pe_non (nomark _)) (pe_one (pe_cmpR op_eq (pe_op op_mul (pe_ix (ix_tupK (K := K) rfl) (pv 6) pe_int (fun _ _ => rfl)) (pe_ix (ix_tupK (K := K) rfl) (pv 3) pe_int (fun _ _ => rfl))) (pe_op op_mul (pe_ix (ix_tupK (K := K) rfl) (pv 3) pe_int (fun _ _ => rfl)) (pe_ix (ix_tupK (K := K) rfl) (pv 6) pe_int (fun _ _ => rfl))) (nomark _)))) (nomark _))
    (pss_one (ps_ret pe_bl))
    pss_nil)
  (pss_one (ps_if (pt_cmpR op_ne (pe_dfK1 (ks := ["value"]) (g := m21) (gV := m21) L_is_worths T.d_is_worths (fun _ _ _ _ _ _ us ws hl => by obtain ⟨_, _, _, rfl, rfl⟩ := len_m21 hl; rfl) (fun r z => rel_m21 r z) (hr.mono (by decide)) (L2N.passes_call (L2N.takes_of rfl rfl rfl rfl) fun _ _ _ _ z => z) (pa_cons (pv 12) (pa_cons (pv 1) pa_nil)) (pk_cons (pv 9) pk_nil)) (pe_df G_law_h_worths (hr.mono (by decide)) (L2N.passes_call (L2N.takes_of rfl rfl rfl rfl) fun _ _ _ _ z => z) (pa_cons (pv 12) (pa_cons (pv 2) (pa_cons (pv 9) (pa_cons (pv 3) pa_nil))))) (nomark _))
    (pss_one (ps_ret pe_bl))
    pss_nil))))))
  (pss_cons (ps_asg (pe_tup (pa_cons (pe_df G_law_pick (hr.mono (by decide)) (L2N.passes_call (L2N.takes_of rfl rfl rfl rfl) fun _ _ _ _ z => z) (pa_cons (pv 0) (pa_cons (pe_lst (pa_cons pe_non (pa_cons (pe_tup (pa_cons pe_int pa_nil)) (pa_cons (pe_callTy (c_lstK (K := K) rfl) (by rfl) B.b_list (by decide +kernel) (pa_cons (pv 12) pa_nil)) (pa_cons (pe_tup (pa_cons pe_int (pa_cons pe_int pa_nil))) (pa_cons (pe_tup (pa_cons pe_int (pa_cons pe_int pa_nil))) (pa_cons (pe_op (op_repB (K := K) rfl) (pe_tup (pa_cons pe_int pa_nil)) pe_int) (pa_cons (pe_tup (pa_cons pe_int (pa_cons pe_bl pa_nil))) pa_nil)))))))) pa_nil))) (pa_cons (pe_df G_law_pick (hr.mono (by decide)) (L2N.passes_call (L2N.takes_of rfl rfl rfl rfl) fun _ _ _ _ z => z) (pa_cons (pv 0) (pa_cons (pe_lst (pa_cons (pe_un un_neg pe_int) (pa_cons (pe_callB (c_lenK (K := K) rfl) (by rfl) B.b_len PySem.boot_len (pa_cons (pv 12) pa_nil)) (pa_cons pe_non (pa_cons pe_bl pa_nil))))) pa_nil))) pa_nil))) (pg_tupK (K := K) (n := 2) rfl rfl (pgs_cons (pg_name (i := 11) sc_law_right.nd rfl (by first | exact Or.inl rfl | exact Or.inr rfl)) (pgs_cons (pg_name (i := 13) sc_law_right.nd rfl (by first | exact Or.inl rfl | exact Or.inr rfl)) pgs_nil))))
  (pss_cons (ps_set (i := 10) sc_law_right.nd rfl (by first | exact Or.inl rfl | exact Or.inr rfl) (pe_lst (pa_cons (pe_lam1 (P := P0) (k := 5) (q := qR) (hq := by kernel_rfl) GR (refused_gives T.g_BadArgument T.xc_BadArgument T.xr_BadArgument_BadArgument) TB rfl (hr.mono (by decide)) (LamX.lamS_by (by kernel_rfl)) (fun A outer s H E f c' hr => (pe_df G_for_ever (hr.mono (by decide)) (L2N.passes_call (takes_down (L2.takes_of rfl rfl rfl rfl)) fun _ _ _ _ z => z) (pa_cons (pv 11) (pa_cons (pv 13) pa_nil))))) (pa_cons (pe_lam1 (P := P0) (k := 5) (q := qR) (hq := by kernel_rfl) GR (refused_gives T.g_BadArgument T.xc_BadArgument T.xr_BadArgument_BadArgument) TB rfl (hr.mono (by decide)) (LamX.lamS_by (by kernel_rfl)) (fun A outer s H E f c' hr => (pe_df G_top (hr.mono (by decide)) (L2N.passes_call (takes_down (L2.takes_of rfl rfl rfl rfl)) fun _ _ _ _ z => z) (pa_cons (pv 12) (pa_cons (pv 13) pa_nil))))) (pa_cons (pe_lam1 (P := P0) (k := 5) (q := qR) (hq := by kernel_rfl) GR (refused_gives T.g_BadArgument T.xc_BadArgument T.xr_BadArgument_BadArgument) TB rfl (hr.mono (by decide)) (LamX.lamS_by (by kernel_rfl)) (fun A outer s H E f c' hr => (pe_df G_fishing (hr.mono (by decide)) (L2N.passes_call (takes_down (L2.takes_of rfl rfl rfl rfl)) fun _ _ _ _ z => z) (pa_cons (pv 11) (pa_cons pe_int pa_nil))))) (pa_cons (pe_lam1 (P := P0) (k := 5) (q := qR) (hq := by kernel_rfl) GR (refused_gives T.g_BadArgument T.xc_BadArgument T.xr_BadArgument_BadArgument) TB rfl (hr.mono (by decide)) (LamX.lamS_by (by kernel_rfl)) (fun A outer s H E f c' hr => (pe_df G_worths (hr.mono (by decide)) (L2N.passes_call (takes_down (L2.takes_of rfl rfl rfl rfl)) fun _ _ _ _ z => z) (pa_cons (pv 12) (pa_cons (pv 13) pa_nil))))) pa_nil))))))
  (pss_one (ps_ret (pe_cmpR (op_eqDK (K := K) rfl hr.units) (pe_op op_cat (pv 10) (pe_lst (pa_cons (pe_lam1 (P := P0) (k := 5) (q := qR) (hq := by kernel_rfl) GR (refused_gives T.g_BadArgument T.xc_BadArgument T.xr_BadArgument_BadArgument) TB rfl (hr.mono (by decide)) (LamX.lamS_by (by kernel_rfl)) (fun A outer s H E f c' hr => (pe_df G_is_fishing (hr.mono (by decide)) (L2N.passes_call (takes_down (L2.takes_of rfl rfl rfl rfl)) fun _ _ _ _ z => z) (pa_cons (pv 11) (pa_cons pe_int (pa_cons (pe_tup pa_nil) pa_nil)))))) (pa_cons (pe_lam1 (P := P0) (k := 5) (q := qR) (hq := by kernel_rfl) GR (refused_gives T.g_BadArgument T.xc_BadArgument T.xr_BadArgument_BadArgument) TB rfl (hr.mono (by decide)) (LamX.lamS_by (by kernel_rfl)) (fun A outer s H E f c' hr => (pe_df G_is_worths (hr.mono (by decide)) (L2N.passes_call (takes_down (L2.takes_of rfl rfl rfl rfl)) fun _ _ _ _ z => z) (pa_cons (pv 12) (pa_cons (pv 13) (pa_cons (pe_tup pa_nil) pa_nil)))))) pa_nil)))) (pe_lst (pa_cons pe_str (pa_cons pe_str (pa_cons pe_str (pa_cons pe_str (pa_cons pe_str (pa_cons pe_str pa_nil))))))) (nomark _))))))))))))))), ?_⟩
    have r : RtC H H a P0 c := ⟨hd, htab, .refl _ _⟩
    walk_at "go"
    refine ⟨a, c, rfl, r.dice, by omega, fun p H1 g hp G d1 o1 => ?_⟩
    replace r := r.dc o1 d1
    clear o1 d1
    have n0 := G.n0
    have n1 := G.n1
    have eg := gV_len g
    walk_at "go"
    refine g_roll r.dice (by omega) (by omega) (by omega) fun s0 H2 s00 s01 d2 o2 => ?_
    replace r := r.dc o2 d2
    have hp := o2.seqT hp
    obtain ⟨s, rfl⟩ : ∃ s : Nat, s0 = (s : Int) := ⟨s0.toNat, by omega⟩
    have hs : s < g.length := by omega
    clear o2 d2
    walk_at "go"
    refine ⟨p, g, s, rfl, hp, G, hs, fun H3 o3 => ?_⟩
    replace r := r.nil o3
    have hp := o3.seqT hp
    clear o3
    walk_at "go"
    refine ⟨_, _, rfl, .inl ⟨p, g, s, ⟨rfl, rfl, hp, G, hs⟩, fun H4 m em o4 => ?_⟩⟩
    replace r := r.nil o4
    have hp := o4.seqT hp
    have hm : SqT K H4 m [.int (bestM g (topOf g s)).1, .int (bestM g (topOf g s)).2] := .of em
    have it := G.isTop hs
    have mok := bestM_ok G it.lt it.cl
    clear o4
    walk_at "go"
    have fz : fracZ (bestM g (topOf g s)).1 (bestM g (topOf g s)).2 = true := by
      have x1 := mok.n0
      have x2 := mok.d0
      have x3 := mok.low
      unfold fracZ
      rw [decide_eq_true (show (1 : Int) ≤ (bestM g (topOf g s)).2 by omega), show (bestM g (topOf g s)).1.natAbs = (bestM g (topOf g s)).1.toNat by omega, decide_eq_true x3]
      rfl
    refine ⟨m, _, _, rfl, em, fun H5 o5 => ?_⟩
    rw [fz]
    replace r := r.nil o5
    have hp := o5.seqT hp
    have hm := o5.seqT hm
    clear o5 em fz
    walk_at "go"
    have x1 := mok.n0
    have x2 := mok.d0
    have x3 := mok.d1
    have x4 := it.lt
    rw [decide_eq_false (show ¬ (bestM g (topOf g s)).1 < 0 by omega)]
    walk_at "go"
    refine ⟨_, _, rfl, .inl ⟨p, g, s, ⟨rfl, rfl, hp, G, hs⟩, fun H6 m2 em2 o6 => ?_⟩⟩
    replace r := r.nil o6
    have hp := o6.seqT hp
    have hm := o6.seqT hm
    clear o6
    walk_at "go"
    refine g_nePair (.of em2) hm ?_
    walk_at "go"
    refine ⟨_, _, rfl, .inl ⟨p, g, s, ⟨rfl, rfl, hp, G, hs⟩, fun H7 o7 => ?_⟩⟩
    replace r := r.nil o7
    have hp := o7.seqT hp
    have hm := o7.seqT hm
    clear o7 em2
    walk_at "go"
    refine br_NT (show ((topOf g s : Nat) : Int) = ((topOf g s : Nat) : Int) from rfl) ?_
    walk_at "go"
    refine ⟨_, _, rfl, .inl ⟨p, g, s, ⟨rfl, rfl, hp, G, hs⟩, fun H8 o8 => ?_⟩⟩
    replace r := r.nil o8
    have hp := o8.seqT hp
    have hm := o8.seqT hm
    clear o8
    walk_at "go"
    refine br_NT (show ((topOf g s : Nat) : Int) = ((topOf g s : Nat) : Int) from rfl) ?_
    walk_at "go"
    refine ⟨_, _, rfl, .inl ⟨p, g, s, ⟨rfl, rfl, hp, G, hs⟩, fun rv H9 t1 t2 zs cs e1 e2 e3 fk o9 => ?_⟩⟩
    replace r := r.nil o9
    have hp := o9.seqT hp
    have hm := o9.seqT hm
    have hv : SqT K H9 rv [.ref t1, .ref t2] := .of e1
    have h1 : SqT K H9 t1 (gV zs) := .of e2
    have h2 : SqT K H9 t2 (gV cs) := .of e3
    clear o9 e1 e2 e3
    walk_at "go"
    refine ⟨_, _, rfl, .inl ⟨p, g, s, ⟨rfl, rfl, hp, G, hs⟩, fun pp H10 ws hw lw pot o10 => ?_⟩⟩
    replace r := r.nil o10
    have hp := o10.seqT hp
    have hm := o10.seqT hm
    have hv := o10.seqT hv
    have h1 := o10.seqT h1
    have h2 := o10.seqT h2
    clear o10
    have fl2 : 1 ≤ cs.length := by
      have := fk.ne
      cases cs with
      | nil => exact absurd rfl this
      | cons x y => rw [List.length_cons]; omega
    have fl1 := fk.l1
    have fl3 := fk.l2
    have efo : fishO g s zs cs = some (sumN cs, (cs.length : Int)) := if_pos ⟨fk.o1, fk.o2, fk.back⟩
    have fsum : sumN cs * (bestM g (topOf g s)).2 = (bestM g (topOf g s)).1 * (cs.length : Int) := by rw [fk.sum, Int.mul_comm]
    have gd : ∀ {H' : Hp}, SqT K H' rv [.ref t1, .ref t2] → SqT K H' t1 (gV zs) → SqT K H' t2 (gV cs) → FV K H' g s (.ref rv) (some (sumN cs, (cs.length : Int))) := fun a b c => .inl ⟨zs, cs, ⟨⟨rv, t1, t2, rfl, a, b, c⟩, by omega, by omega, by omega⟩, efo.symm⟩
    walk_at "go"
    refine ⟨p, g, s, _, _, rfl, hp, G, hs, gd hv h1 h2, fun u H11 hu o11 => ?_⟩
    obtain ⟨fq, rfl, hfq⟩ := hu
    replace r := r.nil o11
    have hp := o11.seqT hp
    have hm := o11.seqT hm
    have hv := o11.seqT hv
    have h1 := o11.seqT h1
    have h2 := o11.seqT h2
    have hw := o11.seqT hw
    clear o11
    walk_at "go"
    refine ⟨rfl, ?_⟩
    walk_at "go"
    refine br_F (fun z : V.ref _ = V.non => by cases z) ?_
    walk_at "go"
    refine br_NT fsum ?_
    walk_at "go"
    have wp : WorP g (topOf g s) (bestM g (topOf g s)).1 (bestM g (topOf g s)).2 ws := .of lw pot
    have gw : ∀ {H' : Hp}, SqT K H' pp (ws.map V.int) → WorV K H' g (topOf g s) (bestM g (topOf g s)).1 (bestM g (topOf g s)).2 (.ref pp) True := fun h => .inl ⟨pp, ws, rfl, h, by omega, ⟨fun _ => wp, fun _ => trivial⟩⟩
    refine ⟨p, g, s, _, m, rfl, hp, G, hs, hm, True, gw hw, fun r1 H12 hr1 o12 => ?_⟩
    obtain rfl : r1 = true := hr1.mpr trivial
    replace r := r.nil o12
    have hp := o12.seqT hp
    have hm := o12.seqT hm
    have hv := o12.seqT hv
    have h1 := o12.seqT h1
    have h2 := o12.seqT h2
    have hw := o12.seqT hw
    clear o12 hr1
    walk_at "go"
    refine ⟨_, _, _, rfl, .inl ⟨p, g, s, ⟨rfl, rfl, hp, G, hs⟩, _, fun H' o => gd (o.seqT hv) (o.seqT h1) (o.seqT h2), fun r2 H13 hr2 o13 => ?_⟩⟩
    obtain rfl : r2 = true := hr2.mpr ⟨_, _, rfl, fsum⟩
    replace r := r.nil o13
    have hp := o13.seqT hp
    have hm := o13.seqT hm
    have hv := o13.seqT hv
    have h1 := o13.seqT h1
    have h2 := o13.seqT h2
    have hw := o13.seqT hw
    clear o13 hr2
    walk_at "go"
    refine ⟨_, _, rfl, rfl, ?_⟩
    walk_at "go"
    refine ⟨_, _, _, rfl, .inl ⟨p, g, s, ⟨rfl, rfl, hp, G, hs⟩, True, fun H' o => gw (o.seqT hw), fun r3 H14 hr3 o14 => ?_⟩⟩
    obtain rfl : r3 = true := hr3.mpr trivial
    replace r := r.nil o14
    have hp := o14.seqT hp
    have hm := o14.seqT hm
    have hv := o14.seqT hv
    have h1 := o14.seqT h1
    have h2 := o14.seqT h2
    have hw := o14.seqT hw
    clear o14 hr3
    walk_at "go"
    refine ⟨_, _, rfl, rfl, ?_⟩
    walk_at "go"
    refine ⟨a, p, m, _, g, s, rfl, r.dice, by omega, hp, G, hs, hm, fun H15 d15 o15 => ?_⟩
    replace r := r.dc o15 d15
    have hp := o15.seqT hp
    have hm := o15.seqT hm
    have hv := o15.seqT hv
    have h1 := o15.seqT h1
    have h2 := o15.seqT h2
    have hw := o15.seqT hw
    clear o15 d15
    walk_at "go"
    refine forR_mk (fun i σ H' => ∃ x6 x7 x8 x9, σ = [some (.ref a), some (.int (s : Int)), some (.int ((topOf g s : Nat) : Int)), some (.ref m), some (.ref rv), some (.ref pp), x6, x7, x8, x9, none, none, some (.ref p), none] ∧ RtC H H' a P0 (c + 53 + 6 * (i : Int)) ∧ Off [a] H15 H') (by decide)
      ⟨_, _, _, _, rfl, r.mono (by omega), .refl _ _⟩ (fun i σ H16 hi hP => ?_) (fun σ H16 hP => ?_)
    · obtain ⟨x6, x7, x8, x9, rfl, r, o⟩ := hP
      have hi : i < 6 := hi
      have hp := o.seqT hp
      have hm := o.seqT hm
      have hv := o.seqT hv
      have h1 := o.seqT h1
      have h2 := o.seqT h2
      have hw := o.seqT hw
      walk_at "go"
      refine ⟨a, rv, t1, t2, _, zs, cs, rfl, r.dice, by omega, hv, h1, h2, fl1, fl2, fl3, fun v H17 nv d17 o17 => ?_⟩
      replace r := r.dc o17 d17
      have hp := o17.seqT hp
      have hm := o17.seqT hm
      have hw := o17.seqT hw
      walk_at "go"
      refine ⟨a, pp, _, ws, rfl, r.dice, by omega, hw, by omega, by omega, fun y H18 ny d18 o18 => ?_⟩
      have nv := nv.map o18 fun _ _ k => k.offDice r.dice d18 o18
      replace r := r.dc o18 d18
      have hp := o18.seqT hp
      have hm := o18.seqT hm
      have oo := (o.trans o17).trans o18
      clear o o17 o18 d17 d18 hv h1 h2 hw
      obtain ⟨f1, bo, fv⟩ := nv.fv g s
      walk_at "go"
      refine ⟨p, g, s, _, f1, rfl, hp, G, hs, fv _ (.refl _ _), fun u H19 hu o19 => ?_⟩
      have ny := ny.map o19 fun _ _ k => k.offN o19
      replace r := r.nil o19
      have hp := o19.seqT hp
      have hm := o19.seqT hm
      have oo := oo.trans (o19.mono fun _ z => absurd z nin_nil)
      walk_at "go"
      refine g_cut (fun σ' H' => σ' = [some (.ref a), some (.int (s : Int)), some (.int ((topOf g s : Nat) : Int)), some (.ref m), some (.ref rv), some (.ref pp), some u, some (.int (i : Int)), some v, some y, none, none, some (.ref p), none] ∧ Off [] H19 H') ?_ (fun σ' H20 hM => ?_)
      · walk_at "go"
        refine g_callK ?_
        walk_at "go"
        refine ⟨_, _, _, rfl, .inl ⟨p, g, s, ⟨rfl, rfl, hp, G, hs⟩, f1, fun H' o' => fv H' (o19.trans o'), fun b1 H20 hb1 o20 => ?_⟩⟩
        cases f1 with
        | none =>
          cases (show u = V.non from hu)
          obtain rfl : b1 = false := by
            cases b1 with
            | false => rfl
            | true =>
              obtain ⟨_, _, e, _⟩ := hb1.mp rfl
              cases e
          walk_at "go"
          refine ⟨rfl, ?_⟩
          walk_at "go"
          refine g_neB ?_
          walk_at "go"
          exact ⟨rfl, o20⟩
        | some xy =>
          obtain ⟨x, y'⟩ := xy
          obtain ⟨fq', rfl, hfq'⟩ := hu
          have hfq' : SqT K H20 fq' [.int x, .int y'] := o20.seqT hfq'
          have hm := o20.seqT hm
          have b2 := bo _ rfl
          have b3 : 0 ≤ y' ∧ y' ≤ 200 := b2
          have eb : b1 = decide (x * (bestM g (topOf g s)).2 = (bestM g (topOf g s)).1 * y') := by
            rw [Bool.eq_iff_iff, hb1, decide_eq_true_eq]
            exact ⟨fun ⟨_, _, e, z⟩ => by cases e; exact z, fun z => ⟨_, _, rfl, z⟩⟩
          subst eb
          walk_at "go"
          refine ⟨rfl, ?_⟩
          walk_at "go"
          refine br_NF (fun z : V.ref _ = V.non => by cases z) ?_
          walk_at "go"
          refine g_neB ?_
          walk_at "go"
          exact ⟨rfl, o20⟩
      · obtain ⟨rfl, o20⟩ := hM
        have ny := ny.map o20 fun _ _ k => k.offN o20
        obtain ⟨bP, wv⟩ := ny.wv g (topOf g s) (bestM g (topOf g s)).1 (bestM g (topOf g s)).2
        replace r := r.nil o20
        have hp := o20.seqT hp
        have hm := o20.seqT hm
        have oo := oo.trans (o20.mono fun _ z => absurd z nin_nil)
        walk_at "go"
        refine g_callK ?_
        walk_at "go"
        refine ⟨_, _, _, rfl, .inl ⟨p, g, s, ⟨rfl, rfl, hp, G, hs⟩, bP, wv, fun b1 H21 hb1 o21 => ?_⟩⟩
        replace r := r.nil o21
        have hp := o21.seqT hp
        have hm := o21.seqT hm
        walk_at "go"
        refine ⟨p, g, s, _, m, rfl, hp, G, hs, hm, bP, wv _ o21, fun b2 H22 hb2 o22 => ?_⟩
        replace r := r.nil o22
        obtain rfl : b1 = b2 := by rw [Bool.eq_iff_iff, hb1, hb2]
        refine g_neB ?_
        walk_at "go"
        exact ⟨_, _, _, _, rfl, r.mono (by omega), oo.trans ((o21.trans o22).mono fun _ z => absurd z nin_nil)⟩
    obtain ⟨x6, x7, x8, x9, rfl, r, o⟩ := hP
    have hp := o.seqT hp
    clear hm hv h1 h2 hw o
    generalize hc7 : c + 53 + 6 * (((6 : Int).toNat : Nat) : Int) = c7 at r
    have hc7 : c7 ≤ 200000 := by
      have e : (((6 : Int).toNat : Nat) : Int) = 6 := rfl
      rw [e] at hc7
      omega
    walk_at "go"
    rename_i z1 hz1 l2 hl2 z3 hz3 z4 hz4 z5 hz5
    refine g_repB (.of upd_same) (by simp) (by omega) (by omega) (by simp) fun p6 hp6 => ?_
    walk_at "go"
    rename_i z7 hz7 lB hlB
    obtain ⟨HB, eHB⟩ : ∃ HB, HB = (upd (upd (upd (upd (upd (upd (upd (upd H16 z1 (HO.tup [.int 0])) l2 (HO.lst (gV g))) z3 (HO.tup [.int 1, .int 0])) z4 (HO.tup [.int 0, .int 2])) z5 (HO.tup [.int 0])) p6 (HO.tup (List.replicate (Int.toNat 32) [V.int 0]).flatten)) z7 (HO.tup [.int 0, .bl true])) lB (HO.lst [.non, .ref z1, .ref l2, .ref z3, .ref z4, .ref p6, .ref z7])) := ⟨_, rfl⟩
    have oB : Off [] H16 HB := by rw [eHB]; exact (((((((Off.new hz1).new2 hl2).new2 hz3).new2 hz4).new2 hz5).new2 hp6).new2 hz7).new2 hlB
    have q1 : HB z1 = some (.tup [.int 0]) := by rw [eHB]; walk_at "hp"
    have q2 : HB l2 = some (.lst (gV g)) := by rw [eHB]; walk_at "hp"
    have q3 : HB z3 = some (.tup [.int 1, .int 0]) := by rw [eHB]; walk_at "hp"
    have q4 : HB z4 = some (.tup [.int 0, .int 2]) := by rw [eHB]; walk_at "hp"
    have q6 : HB p6 = some (.tup (List.replicate (Int.toNat 32) [V.int 0]).flatten) := by rw [eHB]; walk_at "hp"
    have q7 : HB z7 = some (.tup [.int 0, .bl true]) := by rw [eHB]; walk_at "hp"
    have qB : HB lB = some (.lst [.non, .ref z1, .ref l2, .ref z3, .ref z4, .ref p6, .ref z7]) := by rw [eHB]; walk_at "hp"
    rw [← eHB]
    have hall : ∀ v ∈ [V.non, .ref z1, .ref l2, .ref z3, .ref z4, .ref p6, .ref z7], GroA K HB v false := fun v hv => by
      simp only [List.mem_cons, List.not_mem_nil, or_false] at hv
      rcases hv with rfl | rfl | rfl | rfl | rfl | rfl | rfl
      · exact .inr ⟨.non, .non, by decide, rfl⟩
      · exact .inl ⟨z1, _, rfl, .of q1, rfl, by decide +kernel⟩
      · exact .inr ⟨.lst, .lst (.of q2), by decide, rfl⟩
      · exact .inl ⟨z3, _, rfl, .of q3, rfl, by decide +kernel⟩
      · exact .inl ⟨z4, _, rfl, .of q4, rfl, by decide +kernel⟩
      · exact .inl ⟨p6, _, rfl, .of q6, by decide +kernel, by decide +kernel⟩
      · exact .inl ⟨z7, _, rfl, .of q7, rfl, by decide +kernel⟩
    have naB : a ≠ lB := r.dice.off (S := []) ((((((((Off.new hz1).new2 hl2).new2 hz3).new2 hz4).new2 hz5).new2 hp6).new2 hz7)) nin_nil |>.ne hlB
    replace r := r.nil oB
    have hp := oB.seqT hp
    clear oB q1 q2 q3 q4 q6 q7 eHB hlB hz7 hp6 hz5 hz4 hz3 hl2 hz1
    refine ⟨a, lB, _, _, rfl, r.dice, by omega, .of qB, by simp, by simp, naB, fun vb H17 hvb d17 o17 => ?_⟩
    have gb := (hall vb hvb).map o17 fun _ _ k => k.offDice r.dice d17 o17
    replace r := r.dc o17 d17
    have hp := o17.seqT hp
    clear hall hvb qB o17 d17
    walk_at "go"
    rename_i lC hlC
    have naC : a ≠ lC := r.dice.ne hlC
    have gb := gb.map (Off.new (S := []) hlC (o := .lst [.int (-1), .int ((gV g).length : Int), .non, .bl true])) fun _ _ k => k.offN (Off.new hlC)
    replace r := r.nil (Off.new hlC (o := .lst [.int (-1), .int ((gV g).length : Int), .non, .bl true]))
    have hp := seqT_new (o := HO.lst [.int (-1), .int ((gV g).length : Int), .non, .bl true]) hp hlC
    refine ⟨a, lC, _, _, rfl, r.dice, by omega, .of upd_same, by simp, by simp, naC, fun vo H18 hvo d18 o18 => ?_⟩
    have gb := gb.map o18 fun _ _ k => k.offDice r.dice d18 o18
    replace r := r.dc o18 d18
    have hp := o18.seqT hp
    have hbo : flB vo = true ∧ inB 0 ((g.length : Int) - 1) vo = false := by
      simp only [List.mem_cons, List.not_mem_nil, or_false] at hvo
      rcases hvo with rfl | rfl | rfl | rfl
      · exact ⟨rfl, rfl⟩
      · refine ⟨rfl, ?_⟩
        show (decide ((0 : Int) ≤ ((gV g).length : Int)) && decide (((gV g).length : Int) ≤ (g.length : Int) - 1)) = false
        rw [eg, decide_eq_false (show ¬ ((g.length : Int) ≤ (g.length : Int) - 1) by omega), Bool.and_false]
      · exact ⟨rfl, rfl⟩
      · exact ⟨rfl, rfl⟩
    clear hvo o18 d18 hlC naC
    walk_at "go"
    rename_i pt hpt
    have gb := gb.map (Off.new (S := []) hpt (o := .tup [vb, vo])) fun _ _ k => k.offN (Off.new hpt)
    replace r := r.nil (Off.new hpt (o := .tup [vb, vo]))
    have hp := seqT_new (o := HO.tup [vb, vo]) hp hpt
    generalize upd H18 pt (HO.tup [vb, vo]) = H19 at *
    clear hpt
    walk_at "go"
    refine g_lamR r.tab fun H20 o20 t20 => ?_
    obtain ⟨_, hP20, _⟩ := r.tab
    have gb := gb.map o20 fun _ _ k => k.offTab hP20 o20
    replace r := r.tb o20 t20
    have hp := o20.seqT hp
    clear o20 t20 hP20
    walk_at "go"
    refine ⟨_, _, rfl, .inr ⟨_, .inl ⟨rfl, gb⟩, fun H21 o21 => g_refE fun _ H22 _ o22 => ?_⟩⟩
    have gb := gb.map (o21.trans o22) fun _ _ k => k.offN (o21.trans o22)
    replace r := r.nil (o21.trans o22)
    have hp := (o21.trans o22).seqT hp
    clear o21 o22
    walk_at "go"
    refine g_lamR r.tab fun H23 o23 t23 => ?_
    obtain ⟨_, hP23, _⟩ := r.tab
    have gb := gb.map o23 fun _ _ k => k.offTab hP23 o23
    replace r := r.tb o23 t23
    have hp := o23.seqT hp
    clear o23 t23 hP23
    walk_at "go"
    refine ⟨_, _, rfl, .inr ⟨_, .inr ⟨rfl, p, g, rfl, hp, G, hbo.1, hbo.2⟩, fun H24 o24 => g_refE fun _ H25 _ o25 => ?_⟩⟩
    have gb := gb.map (o24.trans o25) fun _ _ k => k.offN (o24.trans o25)
    replace r := r.nil (o24.trans o25)
    have hp := (o24.trans o25).seqT hp
    clear o24 o25
    walk_at "go"
    refine g_lamR r.tab fun H26 o26 t26 => ?_
    obtain ⟨_, hP26, _⟩ := r.tab
    have gb := gb.map o26 fun _ _ k => k.offTab hP26 o26
    replace r := r.tb o26 t26
    have hp := o26.seqT hp
    clear o26 t26 hP26
    walk_at "go"
    refine ⟨_, _, rfl, .inr ⟨_, .inl ⟨rfl, gb⟩, fun H27 o27 => g_refE fun _ H28 _ o28 => ?_⟩⟩
    have gb := gb.map (o27.trans o28) fun _ _ k => k.offN (o27.trans o28)
    replace r := r.nil (o27.trans o28)
    have hp := (o27.trans o28).seqT hp
    clear o27 o28
    walk_at "go"
    refine g_lamR r.tab fun H29 o29 t29 => ?_
    obtain ⟨_, hP29, _⟩ := r.tab
    have gb := gb.map o29 fun _ _ k => k.offTab hP29 o29
    replace r := r.tb o29 t29
    have hp := o29.seqT hp
    clear o29 t29 hP29
    walk_at "go"
    refine ⟨_, _, rfl, .inr ⟨_, .inr ⟨rfl, p, g, rfl, hp, G, hbo.1, hbo.2⟩, fun H30 o30 => g_refE fun _ H31 _ o31 => ?_⟩⟩
    have gb := gb.map (o30.trans o31) fun _ _ k => k.offN (o30.trans o31)
    replace r := r.nil (o30.trans o31)
    have hp := (o30.trans o31).seqT hp
    clear o30 o31
    walk_at "go"
    rename_i tl htl
    have gb := gb.map (Off.new (S := []) htl (o := .lst [V.str "growth", .str "start", .str "growth", .str "start"])) fun _ _ k => k.offN (Off.new htl)
    replace r := r.nil (Off.new htl (o := .lst [V.str "growth", .str "start", .str "growth", .str "start"]))
    have hp := seqT_new (o := HO.lst [V.str "growth", .str "start", .str "growth", .str "start"]) hp htl
    have hT : (upd H31 tl (HO.lst [V.str "growth", .str "start", .str "growth", .str "start"])) tl = some (.lst [V.str "growth", .str "start", .str "growth", .str "start"]) := upd_same
    generalize upd H31 tl (HO.lst [V.str "growth", .str "start", .str "growth", .str "start"]) = H39 at *
    clear htl
    refine g_lamR r.tab fun H40 o40 t40 => ?_
    obtain ⟨_, hP40, _⟩ := r.tab
    have gb := gb.map o40 fun _ _ k => k.offTab hP40 o40
    have hT := o40.at (fun z => by rw [List.mem_singleton.mp z, hP40] at hT; cases hT) hT
    replace r := r.tb o40 t40
    have hp := o40.seqT hp
    clear o40 t40 hP40
    walk_at "go"
    rename_i e40 he40
    have oe40 : Off [] H40 (upd H40 e40 (HO.tup [])) := .new he40
    have gb := gb.map oe40 fun _ _ k => k.offN oe40
    replace r := r.nil oe40
    have hp := oe40.seqT hp
    have hT := oe40.at nin_nil hT
    refine ⟨_, _, _, rfl, .inr ⟨_, .inl ⟨rfl, gb⟩, fun H41 o41 => g_refE fun _ H42 _ o42 => ?_⟩⟩
    have gb := gb.map (o41.trans o42) fun _ _ k => k.offN (o41.trans o42)
    replace r := r.nil (o41.trans o42)
    have hp := (o41.trans o42).seqT hp
    have hT := (o41.trans o42).at nin_nil hT
    clear o41 o42 oe40 he40
    walk_at "go"
    refine g_lamR r.tab fun H43 o43 t43 => ?_
    obtain ⟨_, hP43, _⟩ := r.tab
    have gb := gb.map o43 fun _ _ k => k.offTab hP43 o43
    have hT := o43.at (fun z => by rw [List.mem_singleton.mp z, hP43] at hT; cases hT) hT
    replace r := r.tb o43 t43
    have hp := o43.seqT hp
    clear o43 t43 hP43
    walk_at "go"
    rename_i e43 he43
    have oe43 : Off [] H43 (upd H43 e43 (HO.tup [])) := .new he43
    have gb := gb.map oe43 fun _ _ k => k.offN oe43
    replace r := r.nil oe43
    have hp := oe43.seqT hp
    have hT := oe43.at nin_nil hT
    refine ⟨_, _, _, rfl, .inr ⟨_, .inr ⟨rfl, p, g, rfl, hp, G, hbo.1, hbo.2⟩, fun H44 o44 => g_refE fun _ H45 _ o45 => ?_⟩⟩
    have gb := gb.map (o44.trans o45) fun _ _ k => k.offN (o44.trans o45)
    replace r := r.nil (o44.trans o45)
    have hp := (o44.trans o45).seqT hp
    have hT := (o44.trans o45).at nin_nil hT
    clear o44 o45 oe43 he43
    walk_at "go"
    rename_i lE hlE
    refine g_cat (upd_new hT hlE) upd_same (by rw [sizeLine_eq]; simp) fun lF hlF => ?_
    walk_at "go"
    rename_i lG hlG
    have c6 : ∀ (H' : Hp) (x : Addr), H' x = some (.lst [V.str "growth", .str "start", .str "growth", .str "start", .str "growth", .str "start"]) → Dp K H' (.ref x) (.list [.str "growth", .str "start", .str "growth", .str "start", .str "growth", .str "start"]) := fun H' x e => .lst (.of e) (.cons (.str _) (.cons (.str _) (.cons (.str _) (.cons (.str _) (.cons (.str _) (.cons (.str _) .nil))))))
    refine g_eqD (c6 _ _ (upd_new upd_same hlG)) (c6 _ _ upd_same) (by kernel_rfl) (by kernel_rfl) ?_
    rw [show PyData.eqv (.list [.str "growth", .str "start", .str "growth", .str "start", .str "growth", .str "start"]) (.list [.str "growth", .str "start", .str "growth", .str "start", .str "growth", .str "start"]) = true from by kernel_rfl]
    replace r := r.nil (((Off.new (S := []) hlE (o := .lst [.str "growth", .str "start"])).new2 hlF (o := .lst ([V.str "growth", .str "start", .str "growth", .str "start"] ++ [.str "growth", .str "start"]))).new2 hlG (o := .lst [V.str "growth", .str "start", .str "growth", .str "start", .str "growth", .str "start"]))
    exact q _ r.off r.tab
end
end SH
end

section
/-! #### the walk's words -/
local macro_rules | `(tactic| walk_at "ne0") => `(tactic| first
  | assumption
  | (refine Ne.symm ?_; assumption))
local macro_rules | `(tactic| walk_at "ne") => `(tactic| first
  | assumption
  | (refine Ne.symm ?_; assumption)
  | (refine' L2.ne_of_none ?gx (by assumption); (case gx => walk_at "hp"))
  | (refine' Ne.symm (L2.ne_of_none ?gx (by assumption)); (case gx => walk_at "hp")))
local macro_rules | `(tactic| walk_at "hp") => `(tactic| first
  | assumption
  | exact L2.upd_same
  | (refine' SH.upd_new ?gh (by assumption); (case gh => walk_at "hp"))
  | (refine' (L2.upd_ne ?gn).trans ?gh; (case gn => walk_at "ne0"); (case gh => walk_at "hp"))
  | (refine' SH.Off.at (by assumption) ?gn ?gh; (case gn => walk_at "nin"); (case gh => walk_at "hp")))
local macro_rules | `(tactic| walk_at "nin") => `(tactic| first
  | exact SH.nin_nil
  | (refine SH.nin_cons ?_ ?_; (· walk_at "ne0"); (· walk_at "nin")))
local macro_rules | `(tactic| walk_at "sq") => `(tactic| first
  | assumption
  | (apply L2.SqL.of; (· walk_at "hp"))
  | (apply L2.SqT.of; (· walk_at "hp"))
  | (refine' SH.seqT_new ?gx (by assumption); (case gx => walk_at "sq"))
  | (refine' SH.seqL_new ?gx (by assumption); (case gx => walk_at "sq"))
  | (refine' SH.Off.seqT (by assumption) ?gx; (case gx => walk_at "sq"))
  | (refine' SH.Off.seqL (by assumption) ?gy ?gx; (case gx => walk_at "sq"); (case gy => walk_at "nin")))
local macro_rules | `(tactic| walk_at "kd") => `(tactic| first
  | assumption | exact SH.KdV.int _ | exact SH.KdV.bl _ | exact SH.KdV.str _ | exact SH.KdV.non
  | (apply SH.KdV.tup; (· walk_at "sq")) | (apply SH.KdV.lst; (· walk_at "sq")))
/-- a way that cannot be -/
local macro_rules | `(tactic| walk_at "no") => `(tactic| (exfalso; first | assumption | omega | contradiction | (simp_all; done)))
/-- one step -/
local macro_rules | `(tactic| walk_at "g1") => `(tactic| with_reducible first
  | refine SH.g_var (by with_unfolding_all rfl) ?_ | refine SH.g_c ?_ | refine SH.g_op ?_ | refine SH.g_un ?_ | refine SH.g_I0 ?_ | refine SH.g_U ?_
  | refine SH.g_eqI ?_ | refine SH.g_neI ?_ | refine SH.g_eqS ?_ | refine SH.g_neS ?_
  | refine SH.g_test ?_ | refine SH.g_B ?_ | refine SH.g_isB ?_ | refine SH.g_and ?_ | refine SH.g_or ?_ | refine SH.g_not ?_ | refine SH.g_andV ?_ | refine SH.g_orV ?_ | refine SH.g_notV ?_ | refine SH.g_ifE ?_ | refine SH.g_chain ?_
  | refine SH.g_nil ?_ | refine SH.g_cons ?_ | refine SH.g_tup ?_ | refine SH.g_lst ?_ | refine SH.g_call ?_ | refine SH.g_fld ?_ | refine SH.g_meth ?_ | refine SH.g_make ?_ | refine SH.g_cb ?_ | refine SH.g_bm ?_
  | refine SH.g_seq ?_ | refine SH.g_asg ?_ | refine SH.g_name ?_ | refine SH.g_drop ?_ | refine SH.g_ret ?_ | refine SH.g_retN ?_ | refine SH.g_next ?_ | refine SH.g_brk ?_ | refine SH.g_cnt ?_ | refine SH.g_ifs ?_ | refine SH.g_par ?_ | refine SH.g_par2 ?_ | refine SH.g_fldS ?_ | refine SH.g_raise ?_ | refine SH.g_rs ?_
  | refine SH.g_sub ?_ | refine SH.g_yes ?_ | refine SH.g_sl ?_ | refine SH.g_noPart ?_ | refine SH.g_part ?_ | refine SH.g_intO ?_ | refine SH.g_dget ?_ | refine SH.g_dput ?_ | refine SH.g_forR ?_ | refine SH.g_forL ?_ | refine SH.g_forT ?_ | refine SH.g_lcR ?_ | refine SH.g_lcL ?_ | refine SH.g_lcT ?_ | refine SH.g_gcons ?_ | refine SH.g_gnil ?_
  | refine SH.br_t ?_ | refine SH.br_f ?_
  | refine SH.g_int ?_ | refine SH.g_abs ?_ | refine SH.g_max2 ?_ | refine SH.g_min2 ?_)
local macro_rules | `(tactic| walk_at "g2") => `(tactic| first
  | walk_at "g1"
  | ((with_reducible refine' SH.g_isiInt ?ga ?gz); (case ga => walk_at "kd"))
  | ((with_reducible refine' SH.g_isiBool ?ga ?gz); (case ga => walk_at "kd"))
  | ((with_reducible refine' SH.g_isiStr ?ga ?gz); (case ga => walk_at "kd"))
  | ((with_reducible refine' SH.g_isiTup ?ga ?gz); (case ga => walk_at "kd"))
  | ((with_reducible refine' SH.g_ixT ?ga ?gb ?gz); (case ga => walk_at "sq"); (case gb => rfl))
  | ((with_reducible refine' SH.g_ixL ?ga ?gb ?gz); (case ga => walk_at "sq"); (case gb => first | rfl | (apply SH.atI_refs; assumption)))
  | ((with_reducible refine SH.br_F ?_ ?_); (· decide +kernel)) | ((with_reducible refine SH.br_T ?_ ?_); (· decide +kernel)) | ((with_reducible refine SH.br_NF ?_ ?_); (· decide +kernel)) | ((with_reducible refine SH.br_NT ?_ ?_); (· decide +kernel))
  | ((with_reducible refine' SH.g_gtup ?ga ?gb ?gz); (case ga => walk_at "sq"); (case gb => rfl))
  | ((with_reducible refine' SH.g_lenT ?ga ?gz); (case ga => walk_at "sq"))
  | ((with_reducible refine' SH.g_lenL ?ga ?gz); (case ga => walk_at "sq"))
  | ((with_reducible refine SH.g_mkT (SH.sz rfl) ?_); intro _ _)
  | ((with_reducible refine SH.g_mkL (SH.sz rfl) ?_); intro _ _)
  | ((with_reducible refine SH.g_dnew ?_); intro _ _)
  | ((with_reducible refine' SH.g_tupL ?ga ?gz); (case ga => walk_at "sq"); intro _ _)
  | ((with_reducible refine' SH.g_lstL ?ga ?gz); (case ga => walk_at "sq"); intro _ _)
  | ((with_reducible refine' SH.g_lstT ?ga ?gz); (case ga => walk_at "sq"); intro _ _)
  | ((with_reducible refine' SH.g_dgR ?ga ?gb ?gz); (case ga => walk_at "hp"); (case gb => walk_at "dv"))
  | ((with_reducible refine' SH.g_fldR ?ga ?gb ?gc ?gd ?gz); (case ga => walk_at "hp"); (case gb => walk_at "cl"); (case gc => walk_at "na"); (case gd => walk_at "fv"))
  | ((with_reducible refine' SH.g_insR ?ga ?gb ?gz); (case ga => walk_at "hp"); (case gb => walk_at "fn"))
  | ((with_reducible refine' SH.g_setL ?ga ?gb ?gz); (case ga => walk_at "hp"); (case gb => rfl))
  | ((with_reducible refine SH.g_I ?_ ?_); (· walk_at "ci"))
  | ((with_reducible refine' SH.g_slL ?ga ?gz); (case ga => walk_at "sq"); intro _ _)
  | ((with_reducible refine' SH.g_cat ?ga ?gb ?gc ?gz); (case ga => walk_at "hp"); (case gb => walk_at "hp"); (case gc => walk_at "ls"); intro _ _))
/-- the side conditions of numbers: a divisor, a factor -/
local macro_rules | `(tactic| walk_at "ci") => `(tactic| first
  | (show _ ≠ _; omega) | (show _ < _; omega) | (constructor <;> omega) | (refine Or.inr ⟨?_, ?_⟩ <;> (show _ < _; omega)) | (refine Or.inl ⟨?_, ?_⟩ <;> (show _ < _; omega)) | (refine ⟨?_, ?_, ?_⟩ <;> decide))
local macro_rules | `(tactic| walk_at "ls") => `(tactic| first | (show _ ≤ _; exact Nat.le_trans (by assumption) (by decide)) | (show _ ≤ _; exact Nat.le_trans (by simp; omega) (by decide : 1000 ≤ sizeLine)))
local macro_rules | `(tactic| walk_at "dv") => `(tactic| rfl)
local macro_rules | `(tactic| walk_at "fv") => `(tactic| rfl)
local macro_rules | `(tactic| walk_at "fn") => `(tactic| rfl)
local macro_rules | `(tactic| walk_at "cl") => `(tactic| assumption)
local macro_rules | `(tactic| walk_at "na") => `(tactic| assumption)
local macro_rules | `(tactic| walk_at "go") => `(tactic| repeat walk_at "g2")
/-- a way is split -/
local macro_rules | `(tactic| walk_at "br") => `(tactic| with_reducible first
  | refine SH.br_d (fun _ => ?_) (fun _ => ?_) | refine SH.br_nd (fun _ => ?_) (fun _ => ?_) | refine SH.br_b (fun _ => ?_) (fun _ => ?_))
/-- all ways -/
local macro_rules | `(tactic| walk_at "all") => `(tactic| repeat' first | walk_at "g2" | (walk_at "br" <;> try (walk_at "no")))
/-- a truth value is the other -/
local macro_rules | `(tactic| walk_at "bq") => `(tactic| first | rfl | (simp_all; done) | (simp_all; omega) | (simp only [decide_eq_true_eq, decide_eq_false_iff_not, Bool.and_eq_true, Bool.or_eq_true] at *; omega))
/-- what was tracked is as it was -/
local macro_rules | `(tactic| walk_at "of") => `(tactic| first
  | assumption
  | exact SH.Off.refl _ _
  | (refine' SH.Off.new2 ?gx (by assumption); (case gx => walk_at "of"))
  | (refine' SH.Off.mut ?gx (by assumption); (case gx => walk_at "of"))
  | (refine' SH.Off.trans' ?gx (by assumption) ?gy; (case gy => (intro _ h; (first | exact h | (simp at h; done) | (simp at h ⊢; simp [h]; done)))); (case gx => walk_at "of")))
/-- kinds; parts of tuples; stars -/
local macro_rules | `(tactic| walk_at "g2") => `(tactic| first
  | (with_reducible first | refine SH.br_ntt ?_ | refine SH.br_ntf ?_ | refine SH.br_k ?_ | refine SH.br_nk ?_ | refine SH.g_star ?_ | refine SH.g_forR2 ?_ | refine SH.g_lcZ ?_ | refine SH.g_enL ?_)
  | ((with_reducible refine' SH.g_slA ?ga ?gz); (case ga => walk_at "sq"); intro _ _ _ _)
  | ((with_reducible refine' SH.g_app' ?ga ?gb ?gz); (case ga => walk_at "hp"); (case gb => walk_at "lt"); intro _ _ _)
  | ((with_reducible refine' SH.g_bml ?ga ?gz); (case ga => walk_at "sq"))
  | ((with_reducible refine' SH.g_popF ?ga ?gz); (case ga => walk_at "hp"); intro _ _ _)
  | (with_reducible first | refine SH.g_pnil ?_ | refine SH.g_pcons ?_ | (refine SH.g_disp ?_; intro _ _))
  | ((with_reducible refine' SH.g_kw ?gz))
  | ((with_reducible refine SH.g_kwR rfl ?_)))
local macro_rules | `(tactic| walk_at "lt") => `(tactic| (rw [PySem.sizeLine_eq]; omega))
/-- the law's dice -/
local macro_rules | `(tactic| walk_at "dc") => `(tactic| first
  | assumption
  | (refine' SH.DiceAt.new ?gx (by assumption); (case gx => walk_at "dc"))
  | (refine' SH.DiceAt.off ?gx (by assumption) ?gy; (case gx => walk_at "dc"); (case gy => walk_at "nin")))
local macro_rules | `(tactic| walk_at "g2") => `(tactic| first
  | ((with_reducible refine' SH.g_roll ?ga ?gb ?gc ?gd ?gz); (case ga => walk_at "dc"); (case gb => omega); (case gc => omega); (case gd => omega); intro _ _ _ _ _ _))
namespace SH
open PySem PySem.Spec PyProof.Rows L2 LamX
theorem g_eqPair {K : PySem.W.Frag} {H : Hp} {Q : VK} {u p : Addr} {i j : Int} (h : SqT K H u [.int i, .int j]) (hp : SqT K H p [.int i, .int j]) (q : Q (.bl true) H) : rEqD K (.ref u) (.ref p) H Q :=
  g_eqD (.tup h (ints_dpAll [i, j])) (.tup hp (ints_dpAll [i, j])) (pair_shaped i j) (pair_shaped i j) (by
    rw [show PyData.eqv (.tuple (List.map PyData.int [i, j])) (.tuple (List.map PyData.int [i, j])) = true from pair_refl i j]
    exact q)
theorem grOk_dec {g : List Nat} (h0 : 2 ≤ g.length) (h1 : g.length ≤ 31) (h2 : ∀ l, l < g.length → gAt g l < g.length) (h3 : ∀ j, j < g.length → ∀ i, i < j + 1 → gAt g i ≤ gAt g j) : GrOk g :=
  ⟨h0, h1, h2, fun i j hij hj => h3 j hj i (by omega)⟩
theorem gr1 : GrOk [0, 2, 4, 4, 4] := grOk_dec (by decide) (by decide) (by decide) (by decide)
theorem gr2 : GrOk [0, 0, 3, 3] := grOk_dec (by decide) (by decide) (by decide) (by decide)
theorem gr3 : GrOk [0, 0] := grOk_dec (by decide) (by decide) (by decide) (by decide)
theorem fe1 : bestM [0, 2, 4, 4, 4] (topOf [0, 2, 4, 4, 4] 1) = (2, 1) := by decide +kernel
theorem fe2 : bestM [0, 0, 3, 3] (topOf [0, 0, 3, 3] 3) = (1, 1) := by decide +kernel
theorem fe3 : bestM [0, 0] (topOf [0, 0] 1) = (0, 1) := by decide +kernel
def spLawX (K : PySem.W.Frag) (P0 : Addr) : Sp := fun vs H Q _ => ∃ (a : Addr) (ns : List Int), vs = [.ref a] ∧ SqL K H a (ns.map V.int) ∧ ns.length ≤ 63 ∧ H P0 = some (.tbl #[]) ∧ a ≠ P0 ∧ ∀ H', Q (.bl true) H'
section
variable {P : Program} {w : World} {K : PySem.W.Frag} {mg : Str → Option Value} {base : Heap}
theorem okL_law (T : Txt P w K mg) {cR P0 : Addr} (hco : CodeOf K mg "_law_right" cR) (TB : TabB base mg cR P0) : DefL P w K mg base "law" 13 ["script"] (spLawX K P0) := by
  refine T.d_law.okL sc_law (fun _ _ _ _ _ _ us hl => match us, hl with | [_], _ => rfl) (fun vs H Q E h => ?_) (fun f cdv A outer s H vs Q E hr h => ?_)
  · obtain ⟨a, ns, rfl, _⟩ := h
    rfl
  · obtain ⟨a, ns, rfl, hs, hn, hP, naP, q⟩ := h
    have ok_law_right : ∀ {base : Heap} (T : Txt P w K mg), True := fun _ => trivial
    have B := T.blt
    have hu := hu_of hr
    have G_law_right := ok_law_right (base := base) T
    have G_for_ever := ok_for_ever (base := base) T
    have G_law_dice := ok_law_dice (base := base) T
    have G_law_right := SH.ok_law_right T hco TB
    refine ⟨_, (pss_cons (ps_for (passes_of rfl) rfl (pi_range1 rfl B.b_range (pa_cons (pe_callB (c_max2 rfl) (by rfl) B.b_max (by decide +kernel) (pa_cons pe_int (pa_cons (pe_callB (c_min2 rfl) (by rfl) B.b_min (by decide +kernel) (pa_cons pe_int (pa_cons (pe_callB (c_lenK (K := K) rfl) (by rfl) B.b_len PySem.boot_len (pa_cons (pv 0) pa_nil)) pa_nil))) pa_nil))) pa_nil)) (pg_name (i := 1) sc_law.nd rfl (by first | exact Or.inl rfl | exact Or.inr rfl))
    (pss_one (ps_if (pt_not (pt_val (pe_df G_law_right (hr.mono (by decide)) (L2N.passes_call (L2N.takes_of rfl rfl rfl rfl) fun _ _ _ _ z => z) (pa_cons (pe_df G_law_dice (hr.mono (by decide)) (L2N.passes_call (L2N.takes_of rfl rfl rfl rfl) fun _ _ _ _ z => z) (pa_cons (pv 0) (pa_cons (pv 1) pa_nil))) pa_nil)) (by intro _; rfl)))
    (pss_one (ps_ret pe_bl))
    pss_nil)))
  (pss_one (ps_ret (pe_and (pe_cmpR (op_eqDK (K := K) rfl hr.units) (pe_df G_for_ever (hr.mono (by decide)) (L2N.passes_call (L2N.takes_of rfl rfl rfl rfl) fun _ _ _ _ z => z) (pa_cons (pe_tup (pa_cons pe_int (pa_cons pe_int (pa_cons pe_int (pa_cons pe_int (pa_cons pe_int pa_nil)))))) (pa_cons pe_int pa_nil))) (pe_tup (pa_cons pe_int (pa_cons pe_int pa_nil))) (nomark _)) (pe_and (pe_cmpR (op_eqDK (K := K) rfl hr.units) (pe_df G_for_ever (hr.mono (by decide)) (L2N.passes_call (L2N.takes_of rfl rfl rfl rfl) fun _ _ _ _ z => z) (pa_cons (pe_tup (pa_cons pe_int (pa_cons pe_int (pa_cons pe_int (pa_cons pe_int pa_nil))))) (pa_cons pe_int pa_nil))) (pe_tup (pa_cons pe_int (pa_cons pe_int pa_nil))) (nomark _)) (pe_one (pe_cmpR (op_eqDK (K := K) rfl hr.units) (pe_df G_for_ever (hr.mono (by decide)) (L2N.passes_call (L2N.takes_of rfl rfl rfl rfl) fun _ _ _ _ z => z) (pa_cons (pe_tup (pa_cons pe_int (pa_cons pe_int pa_nil))) (pa_cons pe_int pa_nil))) (pe_tup (pa_cons pe_int (pa_cons pe_int pa_nil))) (nomark _)))))))), ?_⟩
    walk_at "go"
    refine forR_mk (fun i σ H1 => ∃ t, σ = [some (.ref a), t] ∧ Off [P0] H H1 ∧ TabS H1 P0 qR) (by split <;> split <;> omega) ⟨none, rfl, .refl _ _, TabS.nil hP⟩ (fun i σ H1 hi hP => ?_) (fun σ H1 hP => ?_)
    · obtain ⟨t, rfl, oo, tb⟩ := hP
      have hi3 : i < 6 := by
        revert hi
        split <;> split <;> intro hi <;> omega
      walk_at "go"
      refine ⟨a, (i : Int), ns, rfl, oo.seqL (by simpa using naP) hs, hn, by omega, by omega, fun p H2 hp dd o2 => ?_⟩
      walk_at "go"
      refine ⟨p, 0, rfl, dd, by omega, SH.TabS.off tb o2 nin_nil NoExt.nil, fun H3 o3 tb3 => ?_⟩
      walk_at "go"
      refine ⟨_, rfl, (oo.trans (o2.mono (by simp))).muts o3 ?_, tb3⟩
      intro u hu
      simp only [List.mem_cons, List.not_mem_nil, or_false] at hu
      rcases hu with rfl | rfl
      · exact .inr (oo.back hp)
      · exact .inl (by simp)
    · obtain ⟨t, rfl, oo, tb⟩ := hP
      walk_at "go"
      rename_i p1 hp1
      refine ⟨_, _, rfl, .inl ⟨p1, [0, 2, 4, 4, 4], 1, ⟨rfl, rfl, .of upd_same, gr1, by decide⟩, fun H2 r1 e1 o1 => ?_⟩⟩
      rw [fe1] at e1
      walk_at "go"
      rename_i p2 hp2
      refine g_eqPair (seqT_new (.of e1) hp2) (.of upd_same) ?_
      walk_at "go"
      rename_i p3 hp3
      refine ⟨_, _, rfl, .inl ⟨p3, [0, 0, 3, 3], 3, ⟨rfl, rfl, .of upd_same, gr2, by decide⟩, fun H3 r2 e2 o2 => ?_⟩⟩
      rw [fe2] at e2
      walk_at "go"
      rename_i p4 hp4
      refine g_eqPair (seqT_new (.of e2) hp4) (.of upd_same) ?_
      walk_at "go"
      rename_i p5 hp5
      refine ⟨_, _, rfl, .inl ⟨p5, [0, 0], 1, ⟨rfl, rfl, .of upd_same, gr3, by decide⟩, fun H4 r3 e3 o3 => ?_⟩⟩
      rw [fe3] at e3
      walk_at "go"
      rename_i p6 hp6
      refine g_eqPair (seqT_new (.of e3) hp6) (.of upd_same) ?_
      exact q _
end
end SH
end

section
/-! #### the walk's words -/
local macro_rules | `(tactic| walk_at "ne0") => `(tactic| first
  | assumption
  | (refine Ne.symm ?_; assumption))
local macro_rules | `(tactic| walk_at "ne") => `(tactic| first
  | assumption
  | (refine Ne.symm ?_; assumption)
  | (refine' L2.ne_of_none ?gx (by assumption); (case gx => walk_at "hp"))
  | (refine' Ne.symm (L2.ne_of_none ?gx (by assumption)); (case gx => walk_at "hp")))
local macro_rules | `(tactic| walk_at "hp") => `(tactic| first
  | assumption
  | exact L2.upd_same
  | (refine' SH.upd_new ?gh (by assumption); (case gh => walk_at "hp"))
  | (refine' (L2.upd_ne ?gn).trans ?gh; (case gn => walk_at "ne0"); (case gh => walk_at "hp"))
  | (refine' SH.Off.at (by assumption) ?gn ?gh; (case gn => walk_at "nin"); (case gh => walk_at "hp")))
local macro_rules | `(tactic| walk_at "nin") => `(tactic| first
  | exact SH.nin_nil
  | (refine SH.nin_cons ?_ ?_; (· walk_at "ne0"); (· walk_at "nin")))
local macro_rules | `(tactic| walk_at "sq") => `(tactic| first
  | assumption
  | (apply L2.SqL.of; (· walk_at "hp"))
  | (apply L2.SqT.of; (· walk_at "hp"))
  | (refine' SH.seqT_new ?gx (by assumption); (case gx => walk_at "sq"))
  | (refine' SH.seqL_new ?gx (by assumption); (case gx => walk_at "sq"))
  | (refine' SH.Off.seqT (by assumption) ?gx; (case gx => walk_at "sq"))
  | (refine' SH.Off.seqL (by assumption) ?gy ?gx; (case gx => walk_at "sq"); (case gy => walk_at "nin")))
local macro_rules | `(tactic| walk_at "kd") => `(tactic| first
  | assumption | exact SH.KdV.int _ | exact SH.KdV.bl _ | exact SH.KdV.str _ | exact SH.KdV.non
  | (apply SH.KdV.tup; (· walk_at "sq")) | (apply SH.KdV.lst; (· walk_at "sq")))
/-- a way that cannot be -/
local macro_rules | `(tactic| walk_at "no") => `(tactic| (exfalso; first | assumption | omega | contradiction | (simp_all; done)))
/-- one step -/
local macro_rules | `(tactic| walk_at "g1") => `(tactic| with_reducible first
  | refine SH.g_var (by with_unfolding_all rfl) ?_ | refine SH.g_c ?_ | refine SH.g_op ?_ | refine SH.g_un ?_ | refine SH.g_I0 ?_ | refine SH.g_U ?_
  | refine SH.g_eqI ?_ | refine SH.g_neI ?_ | refine SH.g_eqS ?_ | refine SH.g_neS ?_
  | refine SH.g_test ?_ | refine SH.g_B ?_ | refine SH.g_isB ?_ | refine SH.g_and ?_ | refine SH.g_or ?_ | refine SH.g_not ?_ | refine SH.g_andV ?_ | refine SH.g_orV ?_ | refine SH.g_notV ?_ | refine SH.g_ifE ?_ | refine SH.g_chain ?_
  | refine SH.g_nil ?_ | refine SH.g_cons ?_ | refine SH.g_tup ?_ | refine SH.g_lst ?_ | refine SH.g_call ?_ | refine SH.g_fld ?_ | refine SH.g_meth ?_ | refine SH.g_make ?_ | refine SH.g_cb ?_ | refine SH.g_bm ?_
  | refine SH.g_seq ?_ | refine SH.g_asg ?_ | refine SH.g_name ?_ | refine SH.g_drop ?_ | refine SH.g_ret ?_ | refine SH.g_retN ?_ | refine SH.g_next ?_ | refine SH.g_brk ?_ | refine SH.g_cnt ?_ | refine SH.g_ifs ?_ | refine SH.g_par ?_ | refine SH.g_par2 ?_ | refine SH.g_fldS ?_ | refine SH.g_raise ?_ | refine SH.g_rs ?_
  | refine SH.g_sub ?_ | refine SH.g_yes ?_ | refine SH.g_sl ?_ | refine SH.g_noPart ?_ | refine SH.g_part ?_ | refine SH.g_intO ?_ | refine SH.g_dget ?_ | refine SH.g_dput ?_ | refine SH.g_forR ?_ | refine SH.g_forL ?_ | refine SH.g_forT ?_ | refine SH.g_lcR ?_ | refine SH.g_lcL ?_ | refine SH.g_lcT ?_ | refine SH.g_gcons ?_ | refine SH.g_gnil ?_
  | refine SH.br_t ?_ | refine SH.br_f ?_
  | refine SH.g_int ?_ | refine SH.g_abs ?_ | refine SH.g_max2 ?_ | refine SH.g_min2 ?_)
local macro_rules | `(tactic| walk_at "g2") => `(tactic| first
  | walk_at "g1"
  | ((with_reducible refine' SH.g_isiInt ?ga ?gz); (case ga => walk_at "kd"))
  | ((with_reducible refine' SH.g_isiBool ?ga ?gz); (case ga => walk_at "kd"))
  | ((with_reducible refine' SH.g_isiStr ?ga ?gz); (case ga => walk_at "kd"))
  | ((with_reducible refine' SH.g_isiTup ?ga ?gz); (case ga => walk_at "kd"))
  | ((with_reducible refine' SH.g_ixT ?ga ?gb ?gz); (case ga => walk_at "sq"); (case gb => rfl))
  | ((with_reducible refine' SH.g_ixL ?ga ?gb ?gz); (case ga => walk_at "sq"); (case gb => first | rfl | (apply SH.atI_refs; assumption)))
  | ((with_reducible refine SH.br_F ?_ ?_); (· decide +kernel)) | ((with_reducible refine SH.br_T ?_ ?_); (· decide +kernel)) | ((with_reducible refine SH.br_NF ?_ ?_); (· decide +kernel)) | ((with_reducible refine SH.br_NT ?_ ?_); (· decide +kernel))
  | ((with_reducible refine' SH.g_gtup ?ga ?gb ?gz); (case ga => walk_at "sq"); (case gb => rfl))
  | ((with_reducible refine' SH.g_lenT ?ga ?gz); (case ga => walk_at "sq"))
  | ((with_reducible refine' SH.g_lenL ?ga ?gz); (case ga => walk_at "sq"))
  | ((with_reducible refine SH.g_mkT (SH.sz rfl) ?_); intro _ _)
  | ((with_reducible refine SH.g_mkL (SH.sz rfl) ?_); intro _ _)
  | ((with_reducible refine SH.g_dnew ?_); intro _ _)
  | ((with_reducible refine' SH.g_tupL ?ga ?gz); (case ga => walk_at "sq"); intro _ _)
  | ((with_reducible refine' SH.g_lstL ?ga ?gz); (case ga => walk_at "sq"); intro _ _)
  | ((with_reducible refine' SH.g_lstT ?ga ?gz); (case ga => walk_at "sq"); intro _ _)
  | ((with_reducible refine' SH.g_dgR ?ga ?gb ?gz); (case ga => walk_at "hp"); (case gb => walk_at "dv"))
  | ((with_reducible refine' SH.g_fldR ?ga ?gb ?gc ?gd ?gz); (case ga => walk_at "hp"); (case gb => walk_at "cl"); (case gc => walk_at "na"); (case gd => walk_at "fv"))
  | ((with_reducible refine' SH.g_insR ?ga ?gb ?gz); (case ga => walk_at "hp"); (case gb => walk_at "fn"))
  | ((with_reducible refine' SH.g_setL ?ga ?gb ?gz); (case ga => walk_at "hp"); (case gb => rfl))
  | ((with_reducible refine SH.g_I ?_ ?_); (· walk_at "ci"))
  | ((with_reducible refine' SH.g_slL ?ga ?gz); (case ga => walk_at "sq"); intro _ _)
  | ((with_reducible refine' SH.g_cat ?ga ?gb ?gc ?gz); (case ga => walk_at "hp"); (case gb => walk_at "hp"); (case gc => walk_at "ls"); intro _ _))
/-- the side conditions of numbers: a divisor, a factor -/
local macro_rules | `(tactic| walk_at "ci") => `(tactic| first
  | (show _ ≠ _; omega) | (show _ < _; omega) | (constructor <;> omega) | (refine Or.inr ⟨?_, ?_⟩ <;> (show _ < _; omega)) | (refine Or.inl ⟨?_, ?_⟩ <;> (show _ < _; omega)) | (refine ⟨?_, ?_, ?_⟩ <;> decide))
local macro_rules | `(tactic| walk_at "ls") => `(tactic| first | (show _ ≤ _; exact Nat.le_trans (by assumption) (by decide)) | (show _ ≤ _; exact Nat.le_trans (by simp; omega) (by decide : 1000 ≤ sizeLine)))
local macro_rules | `(tactic| walk_at "dv") => `(tactic| rfl)
local macro_rules | `(tactic| walk_at "fv") => `(tactic| rfl)
local macro_rules | `(tactic| walk_at "fn") => `(tactic| rfl)
local macro_rules | `(tactic| walk_at "cl") => `(tactic| assumption)
local macro_rules | `(tactic| walk_at "na") => `(tactic| assumption)
local macro_rules | `(tactic| walk_at "go") => `(tactic| repeat walk_at "g2")
/-- a way is split -/
local macro_rules | `(tactic| walk_at "br") => `(tactic| with_reducible first
  | refine SH.br_d (fun _ => ?_) (fun _ => ?_) | refine SH.br_nd (fun _ => ?_) (fun _ => ?_) | refine SH.br_b (fun _ => ?_) (fun _ => ?_))
/-- all ways -/
local macro_rules | `(tactic| walk_at "all") => `(tactic| repeat' first | walk_at "g2" | (walk_at "br" <;> try (walk_at "no")))
/-- a truth value is the other -/
local macro_rules | `(tactic| walk_at "bq") => `(tactic| first | rfl | (simp_all; done) | (simp_all; omega) | (simp only [decide_eq_true_eq, decide_eq_false_iff_not, Bool.and_eq_true, Bool.or_eq_true] at *; omega))
/-- what was tracked is as it was -/
local macro_rules | `(tactic| walk_at "of") => `(tactic| first
  | assumption
  | exact SH.Off.refl _ _
  | (refine' SH.Off.new2 ?gx (by assumption); (case gx => walk_at "of"))
  | (refine' SH.Off.mut ?gx (by assumption); (case gx => walk_at "of"))
  | (refine' SH.Off.trans' ?gx (by assumption) ?gy; (case gy => (intro _ h; (first | exact h | (simp at h; done) | (simp at h ⊢; simp [h]; done)))); (case gx => walk_at "of")))
namespace SH
open PySem PySem.Spec PyProof.Rows L2 LamX
theorem facts {w : World} {K : PySem.W.Frag} {h : Heap} {mg : Str → Option Value} {f cR P0 : Addr} (X : K.In h) (G : h.Ns mainGlobals mg) (hfa : mg ("law" : Str) = some (.ref f)) (c : Hq.obsQ fa fn xs ex thePr K = Hq.valQ fn xs) (ht : PySem.W.tabIn K "_law_right" = some (cR, P0)) :
    ∃ fd : FuncData, (∀ (s : Shared) (v : Value), BindsTo s fd ⟨[v], []⟩ [("script", v)]) ∧ ∀ base : Heap, TabB base mg cR P0 → FnOk thePr w K mg base (L2N.CX thePr w) 13 f fd ["script"] (spLawX K P0) := by
  have T : Txt thePr w K mg := txt_of X G c
  obtain ⟨f1, fd, F, hm⟩ := T.d_law
  cases hfa.symm.trans hm
  have b := FunD.bindsA (ps := ["script"]) F fun _ _ _ _ _ _ us hl => match us, hl with | [_], _ => rfl
  refine ⟨fd, fun s v => b s [v] rfl, fun base TB => ?_⟩
  obtain ⟨f2, fd2, G2, m2, _, _, oc, od, osl, lk2⟩ := okL_law (base := base) T (codeOf_tab X G ht) TB
  cases hfa.symm.trans m2
  obtain ⟨oc1, od1, dV, kV, doc, pm, an, cdv, ct, osl1, rfl, lk, _, _, _⟩ := F.ex
  cases lk.symm.trans lk2
  exact G2
theorem rec_ok : ((recsOf (PySem.W.view R.prog [at_law_right, lawAt])).find? (fun e => e.name == ("_law_right" : Str))).isSome = true := by kernel_rfl
end SH
open PySem PySem.W PySem.Calls PyProof.Rows
theorem PySem.Challenge.cw_surehaul_k00_whole_sure_for_ever_holds : PySem.Challenge.rw_surehaul_k00_whole_sure_for_ever.Holds := by
  w_on; o_law
  refine HandSHeadRun.head_any (r := OpenLaw.row PySem.Challenge.rw_surehaul_k00_whole_sure_for_ever) (q := view (OpenLaw.row PySem.Challenge.rw_surehaul_k00_whole_sure_for_ever).prog [SH.at_law_right, SH.lawAt]) (H := SH.hk) (ob := SH.ob) (M := 4000) (loose := SH.loose) (d := HandSHeadRun.topDef (OpenLaw.row PySem.Challenge.rw_surehaul_k00_whole_sure_for_ever).prog SH.lawAt) (kwd := []) SH.ob_eq
    (by kernel_rfl) (fun s => by kernel_rfl) SH.hdRun (by kernel_rfl) (by kernel_rfl) (by kernel_rfl) (by rfl) (by first | assumption | decide +kernel) (by decide +kernel) ⟨rfl, rfl, rfl, rfl, rfl, by decide +kernel⟩ ?hw ?hc
  case hw => w_witness2
  case hc =>
    refine SH.walk_ofT5 (l := PySem.Challenge.rw_surehaul_k00_whole_sure_for_ever) (n := 63) (k := 13) (x := "script") (CX := fun w => L2N.CX SH.thePr w) rfl (by decide) (by kernel_rfl) ⟨rfl, by decide, by decide⟩ ?F (fun _ _ _ _ _ z => ?C)
    case C =>
      obtain ⟨_, _, _, _, _, _, _, _, _, _, _, _, q⟩ := z
      exact q
    intro w mg fa h Y G hmg0 TO
    obtain ⟨K, KX, c⟩ := Y
    have hmg : mg ("law" : PySem.Str) = some (.ref fa) := by
      have e : (HandSHeadRun.topDef (OpenLaw.row PySem.Challenge.rw_surehaul_k00_whole_sure_for_ever).prog SH.lawAt).name = ("law" : PySem.Str) := by kernel_rfl
      rw [← e]
      exact hmg0
    obtain ⟨cR, P0, ht, hn⟩ := SH.tab_law_right c
    obtain ⟨d, hd⟩ := Option.isSome_iff_exists.mp SH.rec_ok
    obtain ⟨C, hP⟩ := TO K "_law_right" cR P0 d KX hd ht
    obtain ⟨fd, hb, hF⟩ := SH.facts (w := w) KX G hmg c ht
    have one : ∀ {φ : Addr × Addr → Prop}, φ (cR, P0) → ∀ p ∈ [(cR, P0)], φ p := fun h p hp => by
      rw [List.mem_singleton.mp hp]
      exact h
    exact ⟨K, KX, fd, [(cR, P0)], SH.spLawX K P0, one hP, one hn, one C, hb, fun H a ns hl _ hT hS => ⟨a, ns, rfl, hS, hl, hT _ (List.mem_singleton.mpr rfl), SH.sql_ne hS (hT _ (List.mem_singleton.mpr rfl)) hn, fun _ => rfl⟩, fun base _ _ TB => hF base (TB _ (List.mem_singleton.mpr rfl))⟩
end
