import PyProof.Rows.All
import Wide.All
import OpenK.AllK
import Wide.FinOn
import HandS.ForMost
import HandS.Wide
import HandS.IsInst
import HandS.EndBits
import HandS.Deep
import HandS.More
import HandS.Conv
import HandS.TupLen
import HandS.Style
import HandS.Walk
import HandS.SortKw
import HandS.RaiseMore
import HandS.Defaults
import HandS.DictTup
import HandS.ListItems
import KE.SortData
import KE.KDictList
import HandS.ForExc
import HandS.ExcIs
import PySem.Challenge.RW_manygoings_k23_swept_pictures
set_option Elab.async false
set_option linter.all false
set_option maxRecDepth 100000
set_option maxHeartbeats 4000000
namespace G
open PySem L2
/-! ### one's own defs, called by name -/
section
variable (P : Program) (w : World) (K : PySem.W.Frag) (mg : Str → Option Value) (base : Heap)
/-- the def that the module's name x holds keeps the promise sp -/
structure Cal (CX : CXT) (k : Nat) (x : Str) (ps : List Str) (sp : Sp) : Prop where
  ex : ∃ (f : Addr) (fd : FuncData), FnOk P w K mg base CX k f fd ps sp ∧ Binds K fd ps [] ∧ PySem.W.keepIn K (.ref f) = true ∧ mg x = some (.ref f)
end
section
variable {X : Cx} {e : Expr} {es : List Expr} {pos p : Pos} {t : TA} {CX : CXT} {k j : Nat} {x : Str} {ps : List Str} {sp : Sp} {E : XK}
def tCal (sp : Sp) (E : XK) (t : TA) : TE := fun σ H Q => t σ H fun vs H1 => sp vs H1 Q E
theorem pe_cal (C : Cal X.prog X.w X.K X.mg X.base CX j x ps sp) (hr : Room j X.A) (hg : Gl X x) (hx : Passes CX X E) (ha : PA X (e :: es) t)
    (hdb : (x == ("__debug__" : Str)) = false := by decide) (he : starEach (e :: es) X.env = (false, eval e X.env) :: starEach es X.env := by rfl) (hpl : (backTo pos (starEach es X.env)).any (·.1) = false := by rfl) :
    PE X (.Call (.Name x p) (e :: es) [] pos) (tCal sp E t) := by
  obtain ⟨f, fd, F, b, kp, hm⟩ := C.ex
  have q := pe_call (p := p) (pos := pos) F hr hg hm kp b .nil hx ha hdb he hpl
  have z : tCall sp [] E t = tCal sp E t := by
    funext σ H Q
    unfold tCall tCal
    simp only [List.append_nil]
  rw [z] at q
  exact q
theorem pe_cal0 (C : Cal X.prog X.w X.K X.mg X.base CX j x ps sp) (hr : Room j X.A) (hg : Gl X x) (hx : Passes CX X E)
    (hdb : (x == ("__debug__" : Str)) = false := by decide) : PE X (.Call (.Name x p) [] [] pos) (tCal sp E tNil) := by
  obtain ⟨f, fd, F, b, kp, hm⟩ := C.ex
  have q := pe_call0 (p := p) (pos := pos) F hr hg hm kp b .nil hx hdb
  have z : tCall sp [] E tNil = tCal sp E tNil := by
    funext σ H Q
    unfold tCall tCal
    simp only [List.append_nil]
  rw [z] at q
  exact q
theorem Cal.of {P : Program} {w : World} {K : PySem.W.Frag} {mg : Str → Option Value} {base : Heap} {f : Addr} {fd : FuncData} (F : FnOk P w K mg base CX j f fd ps sp) (b : Binds K fd ps []) (kp : PySem.W.keepIn K (.ref f) = true) (hm : mg x = some (.ref f)) :
    Cal P w K mg base CX j x ps sp := ⟨f, fd, F, b, kp, hm⟩
end
/-! ### errors of one's own classes -/
/-- what the written part says of an error's class -/
structure XOk (K : PySem.W.Frag) (mg : Str → Option Value) (x : Str) (C : Addr) : Prop where
  g : mg x = some (.ref C)
  x : PySem.W.excIn K C [.type "ValueError", .type "Exception", .type "BaseException", .type "object"] "ValueError.__new__" = true
  k : PySem.W.keepIn K (.ref C) = true
  b : PySem.W.subIn K (.ref C) (.type "BaseException") = some true
  t : PySem.W.typeIn K (.ref C) = some (.type "type")
theorem passF {X : Cx} : Passes (L2.CX X.prog X.w) X E0 := fun _ _ _ _ _ _ _ h => by
  obtain ⟨_, _, _, _, _, _, _, _, _, _, _, _, z⟩ := h
  exact z.elim
theorem takesF {X : Cx} : Takes X (fun _ _ _ _ => False) := fun _ _ x => by
  obtain ⟨_, _, _, _, _, _, _, _, _, _, _, _, _, _, _, _, z⟩ := x
  exact z.elim
section
variable {X : Cx} {e : Expr} {es : List Expr} {pos p : Pos} {t : TA} {ta : TE} {CX : CXT} {k j : Nat} {x : Str} {ps : List Str} {sp : Sp} {E : St → XK}
theorem pe_calS (C : Cal X.prog X.w X.K X.mg X.base CX j x ps sp) (hr : Room j X.A) (hg : Gl X x) (hx : ∀ σ, PassesAt CX X σ (E σ)) (ha : PA X (e :: es) t)
    (hdb : (x == ("__debug__" : Str)) = false := by decide) (he : starEach (e :: es) X.env = (false, eval e X.env) :: starEach es X.env := by rfl) (hpl : (backTo pos (starEach es X.env)).any (·.1) = false := by rfl) :
    PE X (.Call (.Name x p) (e :: es) [] pos) (tCallS sp E t) := by
  obtain ⟨f, fd, F, b, kp, hm⟩ := C.ex
  exact pe_callS (p := p) (pos := pos) F hr hg hm kp b hx ha hdb he hpl
/-- raise X('..') -/
def tRaise (C : Addr) (W : WX) : TS := fun _ σ H => W (.ref C) none σ H
theorem ps_raiseO {C : Addr} {W : WX} {m : Str} {jj : Nat} {p2 pos' : Pos} (hc : X.calm = true) (tk : Takes X W) (T : XOk X.K X.mg x C) (hg : Gl X x) (hdb : (x == ("__debug__" : Str)) = false := by decide) : PS X (.Raise (some (.Call (.Name x p) [.Constant (.str m) jj p2] [] pos')) none pos) (tRaise C W) :=
  ps_raise hc tk (pmk_own PySem.F.excBase_ValueError T.x T.g T.k (raises_own T.b T.t) hg hdb)
/-- try: .. except X: .. -/
def tTry1 (K : PySem.W.Frag) (c : Value) (tb : WX → TS) (ts : Addr → Value → Option Addr → TS) (Wout : WX) : TS := fun D σ H => tb (wOnly K c ts Wout D) D σ H
theorem ps_try1 {c : Value} {body suite : List Stmt} {b₀ : Stmt} {np pos' : Pos} {tb : WX → TS} {ts : Addr → Value → Option Addr → TS} {Wout : WX} (hs : X.stack = X.env :: X.outer) (hf : X.env.frame = some X.env.locals) (hc : Names X x c) (tk : Takes X Wout)
    (hb : ∀ (W : WX) (pn : List (Addr × Obj)) (xe : Value → Shared → Prop), Takes (X.tr pn xe) W → PassesOwn (model X.prog X.w) X.A X.env xe → PSs (X.tr pn xe) body (tb W))
    (hsu : ∀ (a : Addr) (oe : Obj) (cls : Value) (d : Option Addr) (pn : List (Addr × Obj)), Zc cls d oe → (∃ vs, oe.data = .fields vs) → PSs (X.suite a ((a, oe) :: pn)) (b₀ :: suite) (ts a cls d)) :
    PS X (.Try body [.ExceptHandler (some (.Name x np)) none (b₀ :: suite) pos'] [] [] pos) (tTry1 X.K c tb ts Wout) := ps_try_only hs hf hc tk hb hsu
end
/-! ### classes of one's own -/
structure ClsOk (K : PySem.W.Frag) (C : Addr) (fs : List Str) : Prop where
  cl : Cls K C
  no : ∀ f ∈ fs, NoAttr K C f
section
variable (P : Program) (w : World) (K : PySem.W.Frag) (mg : Str → Option Value) (base : Heap)
/-- the method m of the class keeps the promise sp; dvs fill up behind the given ones -/
structure CalM (CX : CXT) (k : Nat) (C : Addr) (m : Str) (ps : List Str) (dvs : List V) (sp : Sp) : Prop where
  ex : ∃ (f : Addr) (fd : FuncData) (ds : List Value), FnOk P w K mg base CX k f fd ps sp ∧ Binds K fd ps ds ∧ Vals dvs ds ∧ Meth K C m f ∧ Cls K C
/-- the class that the module's name x holds is made by an __init__ that keeps the promise sp -/
structure CalK (CX : CXT) (k : Nat) (C : Addr) (x : Str) (ps : List Str) (sp : Sp) : Prop where
  ex : ∃ (f : Addr) (fd : FuncData), FnOk P w K mg base CX k f fd ps sp ∧ Binds K fd ps [] ∧ Mk K C f ∧ mg x = some (.ref C)
end
section
variable {X : Cx} {o e : Expr} {es : List Expr} {pos apos p : Pos} {t : TA} {ta : TE} {CX : CXT} {k j : Nat} {m x : Str} {ps : List Str} {dvs : List V} {sp : Sp} {E : XK} {C : Addr} {pl : Sem Bool}
theorem pe_calM (M : CalM X.prog X.w X.K X.mg X.base CX j C m ps dvs sp) (hr : Room j X.A) (hx : Passes CX X E) (he : PE X o ta) (ha : PA X (e :: es) t)
    (hst : starEach (e :: es) X.env = (false, eval e X.env) :: starEach es X.env := by rfl) (hpl : (backTo pos (starEach es X.env)).any (·.1) = false := by rfl)
    (ht : eval (.Call (.Attribute o m apos) (e :: es) [] pos) X.env = (do
      let ov ← eval o X.env
      standAt apos.atName
      let (f, first) ← holding [ov] (getMethod ov m pl)
      callWith pos f first (backTo pos (starEach (e :: es) X.env)) (backToKw pos (keywordEach [] X.env))) := by rfl) :
    PE X (.Call (.Attribute o m apos) (e :: es) [] pos) (tMeth C m sp dvs E ta t) := by
  obtain ⟨f, fd, ds, F, b, v, me, c⟩ := M.ex
  exact pe_meth (pl := pl) he c me F hr b v hx ha hst hpl ht
theorem pe_calM0 (M : CalM X.prog X.w X.K X.mg X.base CX j C m ps dvs sp) (hr : Room j X.A) (hx : Passes CX X E) (he : PE X o ta)
    (ht : eval (.Call (.Attribute o m apos) [] [] pos) X.env = (do
      let ov ← eval o X.env
      standAt apos.atName
      let (f, first) ← holding [ov] (getMethod ov m pl)
      callWith pos f first (backTo pos (starEach [] X.env)) (backToKw pos (keywordEach [] X.env))) := by rfl) :
    PE X (.Call (.Attribute o m apos) [] [] pos) (tMeth C m sp dvs E ta tNil) := by
  obtain ⟨f, fd, ds, F, b, v, me, c⟩ := M.ex
  exact pe_meth0 (pl := pl) he c me F hr b v hx ht
theorem pe_calK0 (M : CalK X.prog X.w X.K X.mg X.base CX j C x ps sp) (hr : Room (j + 1) X.A) (hg : Gl X x) (hx : Passes CX X E) (hdb : (x == ("__debug__" : Str)) = false := by decide) :
    PE X (.Call (.Name x p) [] [] pos) (tMake C sp [] E tNil) := by
  obtain ⟨f, fd, F, b, mk, hm⟩ := M.ex
  exact pe_make0 mk F hr hg hm b .nil hx hdb
theorem pe_calK (M : CalK X.prog X.w X.K X.mg X.base CX j C x ps sp) (hr : Room (j + 1) X.A) (hg : Gl X x) (hx : Passes CX X E) (ha : PA X (e :: es) t)
    (hdb : (x == ("__debug__" : Str)) = false := by decide) (he : starEach (e :: es) X.env = (false, eval e X.env) :: starEach es X.env := by rfl) (hpl : (backTo pos (starEach es X.env)).any (·.1) = false := by rfl) :
    PE X (.Call (.Name x p) (e :: es) [] pos) (tMake C sp [] E t) := by
  obtain ⟨f, fd, F, b, mk, hm⟩ := M.ex
  exact pe_make mk F hr hg hm b .nil hx ha hdb he hpl
end
/-! ### a rule's reading told with another K that is the same -/
section
variable {X : Cx} {e : Expr} {tg : Expr}
theorem kPE {t : TE} (t' : TE) (h : PE X e t) (q : t = t') : PE X e t' := q ▸ h
theorem kPI {t : TI} (t' : TI) (h : PI X tg e t) (q : t = t') : PI X tg e t' := q ▸ h
theorem kPG {t : TG} (t' : TG) (h : PG X e t) (q : t = t') : PG X e t' := q ▸ h
theorem kPT {t : TT} (t' : TT) (h : PT X e t) (q : t = t') : PT X e t' := q ▸ h
theorem kIxR {r : V → V → Hp → VK → Prop} (r' : V → V → Hp → VK → Prop) (h : IxR X r) (q : r = r') : IxR X r' := q ▸ h
theorem kSlR {r : V → Option Int → Option Int → Hp → VK → Prop} (r' : V → Option Int → Option Int → Hp → VK → Prop) (h : SlR X r) (q : r = r') : SlR X r' := q ▸ h
theorem kOpR {o : Value → Value → Sem Value} {r : R2} (r' : R2) (h : OpR X o r) (q : r = r') : OpR X o r' := q ▸ h
theorem kCallR {f : Value} {r : List V → Hp → VK → Prop} (r' : List V → Hp → VK → Prop) (h : CallR X f r) (q : r = r') : CallR X f r' := q ▸ h
end
abbrev rLenK (K : PySem.W.Frag) : List V → Hp → VK → Prop := fun xs H Q => ∃ x n, xs = [x] ∧ LenV K x H n ∧ Q (.int ↑n) H
abbrev rListOf (K : PySem.W.Frag) : List V → Hp → VK → Prop := fun xs H Q => ∃ p ys, xs = [V.ref p] ∧ (SqL K H p ys ∨ SqT K H p ys) ∧ ∀ (l : Addr), H l = none → Q (V.ref l) (upd H l (HO.lst ys))
abbrev rTupOf (K : PySem.W.Frag) : List V → Hp → VK → Prop := fun xs H Q => ∃ p ys, xs = [V.ref p] ∧ ((SqL K H p ys ∧ ∀ (l : Addr), H l = none → Q (V.ref l) (upd H l (HO.tup ys))) ∨ SqT K H p ys ∧ Q (V.ref p) H)
abbrev rJoin (K : PySem.W.Frag) : V → List V → Hp → VK → Prop := fun x xs H Q => ∃ a p, ∃ ys : List Str, x = .str a ∧ xs = [.ref p] ∧ (SqL K H p (ys.map V.str) ∨ SqT K H p (ys.map V.str)) ∧ (ys.map (·.length)).sum + ys.length * a.length ≤ 16777216 ∧ Q (.str (Txt.join a ys)) H
abbrev tTru (K : PySem.W.Frag) (ta : TE) : TT := fun σ H Q => ta σ H fun x H' => ∃ k, TruV K x H' k ∧ Q k H'
abbrev NewT (xs : List V) (H : Hp) (Q : VK) : Prop := xs.length ≤ sizeLine ∧ ∀ p, H p = none → Q (.ref p) (upd H p (.tup xs))
abbrev NewL (xs : List V) (H : Hp) (Q : VK) : Prop := xs.length ≤ sizeLine ∧ ∀ p, H p = none → Q (.ref p) (upd H p (.lst xs))
abbrev DInG (x y : V) (H : Hp) (Q : VK) : Prop := ∃ a o, x = .ref a ∧ DGet H a y o ∧ Q (.bl o.isSome) H
abbrev DNinG (x y : V) (H : Hp) (Q : VK) : Prop := ∃ a o, x = .ref a ∧ DGet H a y o ∧ Q (.bl (!o.isSome)) H
abbrev DGetG (x y : V) (H : Hp) (Q : VK) : Prop := ∃ a v, x = .ref a ∧ DGet H a y (some v) ∧ Q v H
abbrev RevG (K : PySem.W.Frag) (x : V) (H : Hp) (Q : VK) : Prop := ∃ a xs, x = .ref a ∧ SqL K H a xs ∧ ∀ p, H p = none → Q (.ref p) (upd H p (.lst xs.reverse))
abbrev rInsert : V → List V → Hp → VK → Prop := fun x vs H Q => ∃ (l : Addr) (xs : List V) (i : Int) (y : V), x = .ref l ∧ vs = [.int i, y] ∧ H l = some (.lst xs) ∧ xs.length < sizeLine ∧ 0 ≤ i ∧ i < 2 ^ 63 ∧ Q .non (upd H l (.lst (xs.take i.toNat ++ [y] ++ xs.drop i.toNat)))
/-- the built-in names that no module's name hides -/
structure Tx (mg : Str → Option Value) : Prop where
  n_len : mg "len" = none
  n_isinstance : mg "isinstance" = none
  range : mg "range" = none
  n_max : mg "max" = none
  n_min : mg "min" = none
  n_int : mg "int" = none
  n_bool : mg "bool" = none
  n_str : mg "str" = none
  n_list : mg "list" = none
  n_tuple : mg "tuple" = none
  n_dict : mg "dict" = none
  n_sorted : mg "sorted" = none
  n_sum : mg "sum" = none
  n_all : mg "all" = none
  n_any : mg "any" = none
  enumerate : mg "enumerate" = none
  zip : mg "zip" = none
  reversed : mg "reversed" = none
  n_ValueError : mg "ValueError" = none

/-! ### readings, one step at a time -/
section
variable {σ : L2.St} {H : Hp} {Q : VK} {nx : L2.St → Hp → Prop} {rt : VK} {bk ct : L2.St → Hp → Prop} {t u : TS} {te ta tb tv : TE} {tt tc : TT} {tl : TA} {g : TG} {v x y : V} {i : Nat} {K : PySem.W.Frag}
theorem r_seq (h : t ⟨u ⟨nx, rt, bk, ct⟩, rt, bk, ct⟩ σ H) : tSeq t u ⟨nx, rt, bk, ct⟩ σ H := h
theorem r_asg (h : te σ H fun x H1 => g x σ H1 nx) : tAsg te g ⟨nx, rt, bk, ct⟩ σ H := h
theorem r_name {Q : L2.St → Hp → Prop} {σ' : L2.St} (e : σ.set i (some v) = σ') (h : Q σ' H) : gName i v σ H Q := by
  subst e
  exact h
theorem r_begin {D : Ends} {σ' : L2.St} (e : σ = σ') (h : t D σ' H) : t D σ H := by
  subst e
  exact h
theorem r_ret (h : te σ H rt) : tRet te ⟨nx, rt, bk, ct⟩ σ H := h
theorem r_retN (h : rt .non H) : tRetN ⟨nx, rt, bk, ct⟩ σ H := h
theorem r_next (h : nx σ H) : tNext ⟨nx, rt, bk, ct⟩ σ H := h
theorem r_brk (h : bk σ H) : tBreak ⟨nx, rt, bk, ct⟩ σ H := h
theorem r_cont (h : ct σ H) : tCont ⟨nx, rt, bk, ct⟩ σ H := h
theorem r_drop (h : te σ H fun _ H1 => nx σ H1) : tDrop te ⟨nx, rt, bk, ct⟩ σ H := h
theorem r_if (h : tc σ H fun b H1 => if b = true then t ⟨nx, rt, bk, ct⟩ σ H1 else u ⟨nx, rt, bk, ct⟩ σ H1) : tIfS tc t u ⟨nx, rt, bk, ct⟩ σ H := h
theorem r_var (e : σ[i]? = some (some v)) (h : Q v H) : tVar i σ H Q := ⟨v, e, h⟩
theorem r_c (h : Q v H) : tC v σ H Q := h
theorem r_op {r : R2} (h : ta σ H fun x H1 => tb σ H1 fun y H2 => r x y H2 Q) : tOp r ta tb σ H Q := h
theorem r_un {r : V → Hp → VK → Prop} (h : ta σ H fun x H1 => r x H1 Q) : tUn r ta σ H Q := h
theorem r_i0 {f : Int → Int → V} {a b : Int} (h : Q (f a b) H) : rI0 f (.int a) (.int b) H Q := ⟨a, b, rfl, rfl, h⟩
theorem r_i {C : Int → Int → Prop} {f : Int → Int → V} {a b : Int} (c : C a b) (h : Q (f a b) H) : rI C f (.int a) (.int b) H Q := ⟨a, b, rfl, rfl, c, h⟩
theorem r_u {f : Int → V} {a : Int} (h : Q (f a) H) : rU f (.int a) H Q := ⟨a, rfl, h⟩
theorem r_eq (s : scal x y = true) (h : Q (.bl (decide (x = y))) H) : rEq x y H Q := ⟨s, h⟩
theorem r_ne (s : scal x y = true) (h : Q (.bl (!decide (x = y))) H) : rNe x y H Q := ⟨s, h⟩
theorem r_test {Q : Bool → Hp → Prop} (h : te σ H fun x H' => ∃ k, x = .bl k ∧ Q k H') : tTest te σ H Q := h
theorem r_tB {Q : Bool → Hp → Prop} (h : te σ H fun x H' => ∃ k, x = .bl k ∧ Q k H') : tB te σ H Q := h
theorem r_bl {Q : Bool → Prop} {b : Bool} (h : Q b) : ∃ k, V.bl b = .bl k ∧ Q k := ⟨b, rfl, h⟩
theorem r_and {Q : Bool → Hp → Prop} (h : tt σ H fun c H1 => if c = true then tc σ H1 Q else Q false H1) : tAnd tt tc σ H Q := h
theorem r_or {Q : Bool → Hp → Prop} (h : tt σ H fun c H1 => if c = true then Q true H1 else tc σ H1 Q) : tOr tt tc σ H Q := h
theorem r_not {Q : Bool → Hp → Prop} (h : tt σ H fun c H1 => Q (!c) H1) : tNot tt σ H Q := h
theorem r_andV (h : ta σ H fun x H1 => ∃ c, x = .bl c ∧ if c = true then tb σ H1 Q else Q (.bl false) H1) : tAndV ta tb σ H Q := h
theorem r_orV (h : ta σ H fun x H1 => ∃ c, x = .bl c ∧ if c = true then Q (.bl true) H1 else tb σ H1 Q) : tOrV ta tb σ H Q := h
theorem r_notV (h : ta σ H fun x H1 => ∃ c, x = .bl c ∧ Q (.bl (!c)) H1) : tNotV ta σ H Q := h
theorem r_ifE (h : tt σ H fun c H1 => if c = true then ta σ H1 Q else tb σ H1 Q) : tIf tt ta tb σ H Q := h
theorem r_cb {r : List V → Hp → VK → Prop} (h : tl σ H fun vs H1 => r vs H1 Q) : tCB r tl σ H Q := h
theorem r_meth {C : Addr} {m : Str} {sp : Sp} {dvs : List V} {E : XK} (h : ta σ H fun x H1 => ∃ a dx fs, x = .ref a ∧ H1 a = some (.ins C dx fs) ∧ fs.lookup m = none ∧ tl σ H1 fun vs H2 => sp (x :: (vs ++ dvs)) H2 Q E) : tMeth C m sp dvs E ta tl σ H Q := h
theorem r_mfld {a C dx : Addr} {fs : List (Str × V)} {m : Str} {R : Prop} (e : H a = some (.ins C dx fs)) (l : fs.lookup m = none) (h : R) : ∃ b dx fs, V.ref a = .ref b ∧ H b = some (.ins C dx fs) ∧ fs.lookup m = none ∧ R := ⟨a, dx, fs, rfl, e, l, h⟩
theorem r_make {C : Addr} {sp : Sp} {dvs : List V} {E : XK} (h : tl σ H fun vs H1 => ∀ x dx, H1 x = none → H1 dx = none → dx ≠ x → sp (.ref x :: (vs ++ dvs)) (upd (upd H1 dx (.own x)) x (.ins C dx [])) (fun v H2 => v = .non ∧ Q (.ref x) H2) E) : tMake C sp dvs E tl σ H Q := h
theorem r_fld {f : Str} (h : ta σ H fun x H1 => ∃ a C dx fs v, x = .ref a ∧ H1 a = some (.ins C dx fs) ∧ Cls K C ∧ NoAttr K C f ∧ fs.lookup f = some v ∧ Q v H1) : tFld K ta f σ H Q := h
theorem r_fldv {a C dx : Addr} {fs : List (Str × V)} {f : Str} {ks : List Str} {R : V → Prop} (T : ClsOk K C ks) (e : H a = some (.ins C dx fs)) (m : f ∈ ks) (l : fs.lookup f = some v) (h : R v) : ∃ b C dx fs v, V.ref a = .ref b ∧ H b = some (.ins C dx fs) ∧ Cls K C ∧ NoAttr K C f ∧ fs.lookup f = some v ∧ R v := ⟨a, C, dx, fs, v, rfl, e, T.cl, T.no f m, l, h⟩
theorem r_sfld {f : Str} (h : tb σ H fun y H1 => ta σ H1 fun x H2 => ∃ a C dx fs, x = .ref a ∧ H2 a = some (.ins C dx fs) ∧ Cls K C ∧ NoAttr K C f ∧ fs.length < 1000 ∧ nx σ (upd H2 a (.ins C dx (putF f y fs)))) : sFld K ta tb f ⟨nx, rt, bk, ct⟩ σ H := h
theorem r_sfldv {a C dx : Addr} {fs fs' : List (Str × V)} {f : Str} {ks : List Str} {R : Hp → Prop} {y : V} (T : ClsOk K C ks) (e : H a = some (.ins C dx fs)) (m : f ∈ ks) (l : fs.length < 1000) (p : putF f y fs = fs') (h : R (upd H a (.ins C dx fs'))) : ∃ b C dx fs, V.ref a = .ref b ∧ H b = some (.ins C dx fs) ∧ Cls K C ∧ NoAttr K C f ∧ fs.length < 1000 ∧ R (upd H b (.ins C dx (putF f y fs))) := ⟨a, C, dx, fs, rfl, e, T.cl, T.no f m, l, by rw [p]; exact h⟩
theorem r_chain {r r' : R2} {tc : TE} (h : ta σ H fun x H1 => tb σ H1 fun y H2 => r x y H2 fun z H3 => ∃ k, z = .bl k ∧ (if k = true then tc σ H3 fun w' H4 => r' y w' H4 Q else Q (.bl false) H3)) : tChain r r' ta tb tc σ H Q := h
theorem r_cbk {r : List V → List V → Hp → VK → Prop} {tk : TA} (h : tl σ H fun vs H1 => tk σ H1 fun zs H2 => r vs zs H2 Q) : tCKw r tl tk σ H Q := h
theorem r_cal {sp : Sp} {E : XK} (h : tl σ H fun vs H1 => sp vs H1 Q E) : tCal sp E tl σ H Q := h
theorem r_calS {sp : Sp} {E : L2.St → XK} (h : tl σ H fun vs H1 => sp vs H1 Q (E σ)) : tCallS sp E tl σ H Q := h
theorem r_raise {C : Addr} {W : WX} (h : W (.ref C) none σ H) : tRaise C W ⟨nx, rt, bk, ct⟩ σ H := h
theorem r_try1 {c : Value} {tb : WX → TS} {ts : Addr → Value → Option Addr → TS} {Wout : WX} (h : tb (wOnly K c ts Wout ⟨nx, rt, bk, ct⟩) ⟨nx, rt, bk, ct⟩ σ H) : tTry1 K c tb ts Wout ⟨nx, rt, bk, ct⟩ σ H := h
theorem r_nil {Q : List V → Hp → Prop} (h : Q [] H) : tNil σ H Q := h
theorem r_cons {Q : List V → Hp → Prop} (h : te σ H fun x H1 => tl σ H1 fun xs H2 => Q (x :: xs) H2) : tCons te tl σ H Q := h
theorem r_tup (h : tl σ H fun xs H1 => NewT xs H1 Q) : tTup tl σ H Q := h
theorem r_lst (h : tl σ H fun xs H1 => NewL xs H1 Q) : tLst tl σ H Q := h
theorem r_ixL {p : Addr} {xs : List V} {i : Int} (hs : SqL K H p xs) (e : atI xs i = some v) (h : Q v H) : rIxL K (.ref p) (.int i) H Q := ⟨p, xs, i, v, rfl, rfl, hs, e, h⟩
theorem r_ixT {p : Addr} {xs : List V} {i : Int} (hs : SqT K H p xs) (e : atI xs i = some v) (h : Q v H) : rIxT K (.ref p) (.int i) H Q := ⟨p, xs, i, v, rfl, rfl, hs, e, h⟩
theorem r_ixl {p : Addr} {xs : List V} {i : Int} (hs : H p = some (.lst xs)) (e : atI xs i = some v) (h : Q v H) : rIxL K (.ref p) (.int i) H Q := ⟨p, xs, i, v, rfl, rfl, .inl (.inl hs), e, h⟩
theorem r_ixt {p : Addr} {xs : List V} {i : Int} (hs : H p = some (.tup xs)) (e : atI xs i = some v) (h : Q v H) : rIxT K (.ref p) (.int i) H Q := ⟨p, xs, i, v, rfl, rfl, .inl (.inl hs), e, h⟩
theorem r_ixS {z : Str} {i : Int} {c : Nat} (hz : z.length ≤ sizeLine) (e : atI z.cps.toList i = some c) (h : Q (.str ⟨#[c]⟩) H) : rIxS (.str z) (.int i) H Q := ⟨z, i, c, rfl, rfl, hz, e, h⟩
theorem r_ix {r : V → V → Hp → VK → Prop} (h : r x y H Q) : (fun x y H Q => r x y H Q) x y H Q := h
theorem r_sub {o j : TE} {ts : TSet} {Q : L2.St → Hp → Prop} (h : o σ H fun a H1 => j σ H1 fun b H2 => ts a b v H2 fun H3 => Q σ H3) : gSub o j ts v σ H Q := h
theorem r_setL {p : Addr} {xs ys : List V} {k : Int} {j : Nat} {Q : Hp → Prop} (hs : H p = some (.lst xs)) (e : ixN xs.length k = some j) (e2 : xs.set j v = ys) (h : Q (upd H p (.lst ys))) : rSetL (.ref p) (.int k) v H Q := by
  subst e2
  exact ⟨p, xs, k, j, rfl, rfl, hs, e, h⟩
theorem r_gtup {p : Addr} {xs : List V} {n : Nat} {ts : TGs} {Q : L2.St → Hp → Prop} (hs : H p = some (.tup xs)) (hn : xs.length = n) (h : ts xs σ H Q) : gTup K n ts (.ref p) σ H Q := ⟨p, xs, rfl, .inl (.inl hs), hn, h⟩
theorem r_gcons {ts : TGs} {vs : List V} {Q : L2.St → Hp → Prop} (h : g v σ H fun σ' H' => ts vs σ' H' Q) : gCons g ts (v :: vs) σ H Q := ⟨v, vs, rfl, h⟩
theorem r_gnil {Q : L2.St → Hp → Prop} (h : Q σ H) : gNil [] σ H Q := ⟨rfl, h⟩
theorem r_bm {T : String} {r : V → List V → Hp → VK → Prop} (h : ta σ H fun x H1 => tyV K T x H1 ∧ tl σ H1 fun xs H2 => r x xs H2 Q) : tBM K T r ta tl σ H Q := h
theorem r_bm0 {T : String} {r : V → List V → Hp → VK → Prop} (h : ta σ H fun x H1 => tyV K T x H1 ∧ r x [] H1 Q) : tBM0 K T r ta σ H Q := h
theorem r_tyL {p : Addr} {xs : List V} {R : Prop} (hs : H p = some (.lst xs)) (h : R) : tyV K "list" (.ref p) H ∧ R := ⟨.inl ⟨rfl, _, .inl (.inl hs)⟩, h⟩
theorem r_app {p : Addr} {xs : List V} (hs : H p = some (.lst xs)) (hz : xs.length < sizeLine) (h : Q .non (upd H p (.lst (xs ++ [v])))) : rAppend (.ref p) [v] H Q := ⟨p, xs, v, rfl, rfl, hs, hz, h⟩
theorem r_rev {p : Addr} {xs : List V} (hs : H p = some (.lst xs)) (h : Q .non (upd H p (.lst xs.reverse))) : rReverse (.ref p) [] H Q := ⟨p, xs, rfl, rfl, hs, h⟩
theorem r_cat {p q : Addr} {xs ys : List V} (h1 : H p = some (.lst xs)) (h2 : H q = some (.lst ys)) (hz : xs.length + ys.length ≤ sizeLine) (h : ∀ c, H c = none → Q (.ref c) (upd H c (.lst (xs ++ ys)))) : rCat (.ref p) (.ref q) H Q := ⟨p, q, xs, ys, rfl, rfl, h1, h2, hz, h⟩
theorem r_revL (h : te σ H fun x H1 => RevG K x H1 Q) : tRevL K te σ H Q := h
theorem r_ext {p q : Addr} {xs ys : List V} (h1 : H p = some (.lst xs)) (h2 : H q = some (.lst ys)) (hz : xs.length + ys.length ≤ sizeLine) (h : Q .non (upd H p (.lst (xs ++ ys)))) : rExtend (.ref p) [.ref q] H Q := ⟨p, q, xs, ys, rfl, rfl, h1, h2, hz, h⟩
theorem r_dget {td ty : TE} (h : td σ H fun x H1 => ty σ H1 fun y H2 => DGetG x y H2 Q) : tDGet td ty σ H Q := h
theorem r_din {td ty : TE} (h : ty σ H fun y H1 => td σ H1 fun x H2 => DInG x y H2 Q) : tDIn ty td σ H Q := h
theorem r_dnin {td ty : TE} (h : ty σ H fun y H1 => td σ H1 fun x H2 => DNinG x y H2 Q) : tDNotIn ty td σ H Q := h
theorem r_slc {r : V → Option Int → Option Int → Hp → VK → Prop} {to th : TO} (h : te σ H fun x H1 => to σ H1 fun l H2 => th σ H2 fun u H3 => r x l u H3 Q) : tSl r te to th σ H Q := h
theorem r_nop {Q : Option Int → Hp → Prop} (h : Q none H) : tNoPart σ H Q := h
theorem r_part {Q : Option Int → Hp → Prop} (h : te σ H fun x H1 => ∃ i, x = .int i ∧ Q (some i) H1) : tPart te σ H Q := h
theorem r_int {Q : Int → Prop} {a : Int} (h : Q a) : ∃ k, V.int a = .int k ∧ Q k := ⟨a, rfl, h⟩
theorem r_isi {T C : String} {b : Bool} (h : TyX K H x (.type T)) (e : kitB T C = some b) (q : Q (.bl b) H) : rIsi K [x, .ty C] H Q := ⟨x, .ty C, _, _, b, rfl, .ty C, h, kit_ty e, q⟩
theorem r_disp {trs : List (TE × TE)} (h : ∀ p, H p = none → tPairs trs σ (upd H p (.dK [])) fun ps H2 => H2 p = some (.dK []) ∧ ∃ kvs : List (Key × V), ps = kvs.map (fun kv => (kV kv.1, kv.2)) ∧ kvs.length ≤ 15 ∧ Q (.ref p) (upd H2 p (.dK (mergeK [] kvs)))) : tDisp trs σ H Q := h
theorem r_pcons {r : List (TE × TE)} {Q : List (V × V) → Hp → Prop} (h : ta σ H fun x H1 => tb σ H1 fun y H2 => tPairs r σ H2 fun ps H3 => Q ((x, y) :: ps) H3) : tPairs ((ta, tb) :: r) σ H Q := h
theorem r_pnil {Q : List (V × V) → Hp → Prop} (h : Q [] H) : tPairs [] σ H Q := h
theorem r_slS {z : Str} {lo hi : Option Int} (hz : z.length ≤ sizeLine) (q : Q (.str (cutS z lo hi)) H) : rSlS (.str z) lo hi H Q := ⟨z, rfl, hz, q⟩
theorem r_dput {td ty : TE} {tz : TE} (h : tz σ H fun v H1 => td σ H1 fun x H2 => ty σ H2 fun y H3 => ∃ a H4, x = .ref a ∧ DPut H3 a y v H4 ∧ nx σ H4) : sDPut td ty tz ⟨nx, rt, bk, ct⟩ σ H := h
theorem r_dki {R : Option V → Prop} {a : Addr} {kvs : List (Key × V)} {k : Int} (e : H a = some (.dK kvs)) (h : R (valV kvs (.inl k))) : ∃ b o, V.ref a = .ref b ∧ DGet H b (.int k) o ∧ R o := ⟨a, _, rfl, DGet.k (k := .inl k) e, h⟩
theorem r_gki {R : V → Prop} {a : Addr} {kvs : List (Key × V)} {k : Int} {v : V} (e : H a = some (.dK kvs)) (e2 : valV kvs (.inl k) = some v) (h : R v) : ∃ b v, V.ref a = .ref b ∧ DGet H b (.int k) (some v) ∧ R v := ⟨a, v, rfl, e2 ▸ DGet.k (k := .inl k) e, h⟩
theorem r_pki {R : Hp → Prop} {a : Addr} {kvs : List (Key × V)} {k : Int} {v : V} (e : H a = some (.dK kvs)) (hl : kvs.length < sizeLine) (h : R (upd H a (.dK (putK kvs (.inl k) v)))) : ∃ b H', V.ref a = .ref b ∧ DPut H b (.int k) v H' ∧ R H' := ⟨a, _, rfl, DPut.k (k := .inl k) e hl, h⟩
theorem r_gkR {R : V → Prop} {a : Addr} {kvs : List (Key × V)} {k : Key} {v y : V} (e : Rd H a (.dK kvs)) (ey : y = kV k) (e2 : valV kvs k = some v) (h : R v) : ∃ b v, V.ref a = .ref b ∧ DGet H b y (some v) ∧ R v := ⟨a, v, rfl, by rw [ey, ← e2]; exact .inl ⟨kvs, k, e, rfl, rfl⟩, h⟩
theorem r_lockE {t : TE} {d : Addr} {u : HO} (e : H d = some u) (m : Mut (some u)) (h : ∀ od, t σ (upd H d (.frz od u)) fun v H' => H' d = some (.frz od u) ∧ Q v (upd H' d u)) : tLockE t σ H Q := ⟨d, u, e, m, h⟩
theorem r_dks {R : Option V → Prop} {a : Addr} {kvs : List (Key × V)} {k : Str} (e : H a = some (.dK kvs)) (h : R (valV kvs (.inr k))) : ∃ b o, V.ref a = .ref b ∧ DGet H b (.str k) o ∧ R o := ⟨a, _, rfl, DGet.k (k := .inr k) e, h⟩
theorem r_gks {R : V → Prop} {a : Addr} {kvs : List (Key × V)} {k : Str} {v : V} (e : H a = some (.dK kvs)) (e2 : valV kvs (.inr k) = some v) (h : R v) : ∃ b v, V.ref a = .ref b ∧ DGet H b (.str k) (some v) ∧ R v := ⟨a, v, rfl, e2 ▸ DGet.k (k := .inr k) e, h⟩
theorem r_pks {R : Hp → Prop} {a : Addr} {kvs : List (Key × V)} {k : Str} {v : V} (e : H a = some (.dK kvs)) (hl : kvs.length < sizeLine) (h : R (upd H a (.dK (putK kvs (.inr k) v)))) : ∃ b H', V.ref a = .ref b ∧ DPut H b (.str k) v H' ∧ R H' := ⟨a, _, rfl, DPut.k (k := .inr k) e hl, h⟩
theorem r_lenl {R : Nat → Prop} {p : Addr} {xs : List V} (e : H p = some (.lst xs)) (h : R xs.length) : ∃ x n, [V.ref p] = [x] ∧ LenV K x H n ∧ R n := ⟨_, _, rfl, .inl ⟨xs, .inl (.inl e), rfl⟩, h⟩
theorem r_lent {R : Nat → Prop} {p : Addr} {xs : List V} (e : H p = some (.tup xs)) (h : R xs.length) : ∃ x n, [V.ref p] = [x] ∧ LenV K x H n ∧ R n := ⟨_, _, rfl, .inr ⟨xs, .inl (.inl e), rfl⟩, h⟩
theorem r_lenS {R : Nat → Prop} {y : Str} (e : y.length ≤ sizeLine) (h : R y.length) : ∃ x n, [V.str y] = [x] ∧ LenV K x H n ∧ R n := ⟨_, _, rfl, ⟨e, rfl⟩, h⟩
theorem r_m1 {r : V → List V → Hp → VK → Prop} (ha : ta σ H fun x H1 => (∃ a, x = .str a) ∧ tb σ H1 fun y H2 => r x [y] H2 Q) : tM1 r ta tb σ H Q := ha
theorem r_isS {R : Prop} {a : Str} (h : R) : (∃ b, V.str a = .str b) ∧ R := ⟨⟨a, rfl⟩, h⟩
theorem r_yes {Q : Bool → Hp → Prop} (h : Q true H) : tYes σ H Q := h
theorem r_yes2 {A B : Hp → Prop} (h : A H) : tYes σ H (fun b H3 => if b = true then A H3 else B H3) := by
  show (if true = true then A H else B H)
  rw [if_pos rfl]
  exact h
theorem r_ite {b : Bool} {A B : Prop} (h1 : b = true → A) (h2 : b = false → B) : if b = true then A else B := by
  cases b with
  | true => exact (if_pos rfl).mpr (h1 rfl)
  | false => exact (if_neg Bool.false_ne_true).mpr (h2 rfl)
theorem r_itT {b : Bool} {A B : Prop} (e : b = true) (h : A) : if b = true then A else B := by rw [if_pos e]; exact h
theorem r_itF {b : Bool} {A B : Prop} (e : b = false) (h : B) : if b = true then A else B := by rw [e]; exact (if_neg Bool.false_ne_true).mpr h
theorem r_ifT {A B : Prop} (h : A) : if true = true then A else B := r_itT rfl h
theorem r_ifF {A B : Prop} (h : B) : if false = true then A else B := r_itF rfl h
theorem r_ifnT {A B : Prop} (h : B) : if (!true) = true then A else B := r_itF rfl h
theorem r_ifnF {A B : Prop} (h : A) : if (!false) = true then A else B := r_itT rfl h
theorem r_isiS {z : Str} (q : Q (.bl true) H) : rIsi K [.str z, .ty "str"] H Q := r_isi (.base (.str z)) (by decide) q
theorem r_isiI {z : Int} (q : Q (.bl true) H) : rIsi K [.int z, .ty "int"] H Q := r_isi (.base (.int z)) (by decide) q
theorem r_isiBl {z : Bool} (q : Q (.bl true) H) : rIsi K [.bl z, .ty "bool"] H Q := r_isi (.base (.bl z)) (by decide) q
theorem r_isiB {z : Int} (q : Q (.bl false) H) : rIsi K [.int z, .ty "bool"] H Q := r_isi (.base (.int z)) (by decide) q
theorem r_eqI {a b : Int} (h : Q (.bl (decide (a = b))) H) : rEq (.int a) (.int b) H Q := ⟨rfl, by
  rw [show decide (V.int a = V.int b) = decide (a = b) from decide_eq_decide.mpr ⟨fun h => V.int.inj h, fun h => by rw [h]⟩]
  exact h⟩
theorem r_neI {a b : Int} (h : Q (.bl (!decide (a = b))) H) : rNe (.int a) (.int b) H Q := ⟨rfl, by
  rw [show decide (V.int a = V.int b) = decide (a = b) from decide_eq_decide.mpr ⟨fun h => V.int.inj h, fun h => by rw [h]⟩]
  exact h⟩
theorem r_eqS {a b : Str} (h : Q (.bl (decide (a = b))) H) : rEq (.str a) (.str b) H Q := ⟨rfl, by
  rw [show decide (V.str a = V.str b) = decide (a = b) from decide_eq_decide.mpr ⟨fun h => V.str.inj h, fun h => by rw [h]⟩]
  exact h⟩
theorem r_neS {a b : Str} (h : Q (.bl (!decide (a = b))) H) : rNe (.str a) (.str b) H Q := ⟨rfl, by
  rw [show decide (V.str a = V.str b) = decide (a = b) from decide_eq_decide.mpr ⟨fun h => V.str.inj h, fun h => by rw [h]⟩]
  exact h⟩
theorem r_isT {b : Bool} (h : Q (.bl b) H) : rIsB (.bl b) (.bl true) H Q := ⟨b, true, rfl, rfl, by cases b <;> exact h⟩
theorem r_isF {b : Bool} (h : Q (.bl (!b)) H) : rIsB (.bl b) (.bl false) H Q := ⟨b, false, rfl, rfl, by cases b <;> exact h⟩
theorem r_ntT {b : Bool} (h : Q (.bl (!b)) H) : rNotB (.bl b) (.bl true) H Q := ⟨b, true, rfl, rfl, by cases b <;> exact h⟩
theorem r_ntF {b : Bool} (h : Q (.bl b) H) : rNotB (.bl b) (.bl false) H Q := ⟨b, false, rfl, rfl, by cases b <;> exact h⟩
/-! loops -/
def ForL (J : It) (g : TG) (tb : TS) (nx : L2.St → Hp → Prop) (rt : VK) (σ : L2.St) (H : Hp) : Prop := ∃ W : Nat → Nat → L2.St → Hp → Prop, (∃ m, W 0 m σ H) ∧ ∀ i m σ H, W i m σ H →
  (J.stop i H ∧ nx σ H) ∨ (J.go i H ∧ ∃ N : L2.St → Hp → Prop, (∀ σ' H', N σ' H' → ∃ m', m' < m ∧ W (i + 1) m' σ' H') ∧ ∀ x H', J.yld i H x H' → g x σ H' fun σ2 H2 => tb ⟨N, rt, nx, N⟩ σ2 H2)
theorem r_for {wi : TI} {tb : TS} (h : wi σ H fun J H1 => ForL J g tb nx rt σ H1) : tFor wi g tb ⟨nx, rt, bk, ct⟩ σ H := h
theorem r_rng1 {R : It → Hp → Prop} (h : tl σ H fun vs H1 => ∃ j : Int, vs = [.int j] ∧ -(2 ^ 62) ≤ j ∧ j < 2 ^ 62 ∧ R (Itr 0 j.toNat) H1) : iRng1 tl σ H R := h
theorem r_rngv {R : Int → Prop} {n : Int} (h0 : -1000000 ≤ n) (h1 : n ≤ 1000000) (h : R n) : ∃ j : Int, [V.int n] = [.int j] ∧ -(2 ^ 62) ≤ j ∧ j < 2 ^ 62 ∧ R j := ⟨n, rfl, by omega, by omega, h⟩
theorem r_rng2 {R : It → Hp → Prop} (h : tl σ H fun vs H1 => ∃ i j : Int, vs = [.int i, .int j] ∧ (-(2 ^ 62) ≤ i ∧ i < 2 ^ 62 ∧ -(2 ^ 62) ≤ j ∧ j < 2 ^ 62) ∧ R (Itr i (j - i).toNat) H1) : iRng2 tl σ H R := h
theorem r_rngw {R : Int → Int → Prop} {n m : Int} (h0 : -1000000 ≤ n) (h1 : n ≤ 1000000) (h2 : -1000000 ≤ m) (h3 : m ≤ 1000000) (h : R n m) : ∃ i j : Int, [V.int n, V.int m] = [.int i, .int j] ∧ (-(2 ^ 62) ≤ i ∧ i < 2 ^ 62 ∧ -(2 ^ 62) ≤ j ∧ j < 2 ^ 62) ∧ R i j := ⟨n, m, rfl, by omega, h⟩
theorem r_rng3 {R : It → Hp → Prop} (h : tl σ H fun vs H1 => ∃ (i j c : Int) (n : Nat), vs = [.int i, .int j, .int c] ∧ RgC i j c n ∧ R (Itc i c n) H1) : iRng3 tl σ H R := h
theorem L_range {lo : Int} {n : Nat} {tb : TS} (Pv : Nat → L2.St → Hp → Prop) (h0 : Pv 0 σ H)
    (hs : ∀ i σ H, i < n → Pv i σ H → g (.int (lo + i)) σ H fun σ2 H2 => tb ⟨Pv (i + 1), rt, nx, Pv (i + 1)⟩ σ2 H2) (hd : ∀ σ H, Pv n σ H → nx σ H) : ForL (Itr lo n) g tb nx rt σ H :=
  for_range (D := ⟨nx, rt, nx, nx⟩) Pv h0 hs hd
theorem L_list {a : Addr} {xs : List V} {tb : TS} (Pv : Nat → L2.St → Hp → Prop) (h0 : Pv 0 σ H) (hl : ∀ i σ H, i ≤ xs.length → Pv i σ H → SqL K H a xs)
    (hs : ∀ i x σ H, xs[i]? = some x → Pv i σ H → g x σ H fun σ2 H2 => tb ⟨Pv (i + 1), rt, nx, Pv (i + 1)⟩ σ2 H2) (hd : ∀ σ H, Pv xs.length σ H → nx σ H) : ForL (Itl K a) g tb nx rt σ H :=
  for_list (D := ⟨nx, rt, nx, nx⟩) Pv h0 hl hs hd
theorem r_ilst {R : It → Hp → Prop} (h : te σ H fun x H1 => ∃ a, x = .ref a ∧ (∃ xs, SqL K H1 a xs) ∧ R (Itl K a) H1) : iList K te σ H R := h
theorem r_ilv {R : Addr → Prop} {a : Addr} {xs : List V} (hs : SqL K H a xs) (h : R a) : ∃ b, V.ref a = .ref b ∧ (∃ xs, SqL K H b xs) ∧ R b := ⟨a, rfl, ⟨xs, hs⟩, h⟩
theorem r_ilw {R : Addr → Prop} {a : Addr} {xs : List V} (hs : H a = some (.lst xs)) (h : R a) : ∃ b, V.ref a = .ref b ∧ (∃ xs, SqL K H b xs) ∧ R b := ⟨a, rfl, ⟨xs, .inl (.inl hs)⟩, h⟩
theorem r_ienum {R : It → Hp → Prop} (h : tl σ H fun vs H1 => ∃ a xs, vs = [.ref a] ∧ SqL K H1 a xs ∧ R (Ite K a) H1) : iEnum K tl σ H R := h
theorem r_irev {R : It → Hp → Prop} (h : tl σ H fun vs H1 => ∃ (a : Addr) (xs : List V), vs = [.ref a] ∧ SqL K H1 a xs ∧ R (Itv K a xs.length) H1) : iRev K tl σ H R := h
theorem r_itup {R : It → Hp → Prop} (h : te σ H fun x H1 => ∃ a, x = .ref a ∧ (∃ xs, SqT K H1 a xs) ∧ R (Itt K a) H1) : iTup K te σ H R := h
theorem r_ikeys {R : It → Hp → Prop} (h : te σ H fun x H1 => ∃ d o, x = .ref d ∧ ((∃ kvs, H1 d = some (.frz o (.dK kvs)) ∧ R (Itk d o kvs) H1) ∨ ∃ kvs, H1 d = some (.frz o (.dT kvs)) ∧ R (Itkt d o kvs) H1)) : iKeys te σ H R := h
theorem r_izip {R : It → Hp → Prop} (h : tl σ H fun vs H1 => ∃ a b xs ys, vs = [.ref a, .ref b] ∧ SqL K H1 a xs ∧ SqL K H1 b ys ∧ R (Itz K a b) H1) : iZip K tl σ H R := h
theorem r_istr {R : It → Hp → Prop} (h : te σ H fun v H1 => ∃ x, v = .str x ∧ R (Its x) H1) : iStr te σ H R := h
/-! while -/
def Wh (W : Nat → L2.St → Hp → Prop) (m : Nat) (tb : TS) (nx : L2.St → Hp → Prop) (rt : VK) (σ : L2.St) (H : Hp) : Prop :=
  ∃ N : L2.St → Hp → Prop, (∀ σ' H', N σ' H' → ∃ m', m' < m ∧ W m' σ' H') ∧ tb ⟨N, rt, nx, N⟩ σ H
theorem r_while {tb : TS} (W : Nat → L2.St → Hp → Prop) (m0 : Nat) (h0 : W m0 σ H) (hs : ∀ m σ H, W m σ H → tc σ H fun b H1 => if b = true then Wh W m tb nx rt σ H1 else nx σ H1) : tWhile tc tb ⟨nx, rt, bk, ct⟩ σ H :=
  ⟨W, ⟨m0, h0⟩, hs⟩
theorem r_wh {tb : TS} {W : Nat → L2.St → Hp → Prop} {m : Nat} (h : tb ⟨fun σ' H' => ∃ m', m' < m ∧ W m' σ' H', rt, nx, fun σ' H' => ∃ m', m' < m ∧ W m' σ' H'⟩ σ H) : Wh W m tb nx rt σ H := ⟨_, fun _ _ h => h, h⟩
/-! comprehensions -/
def LcL (J : It) (g : TG) (tt : TT) (te : TE) (vs : List Nat) (σ : L2.St) (H1 : Hp) (Q : VK) : Prop := ∀ D, H1 D = none → ∃ W : Nat → Nat → Hp → Prop, (∃ m, W 0 m (upd H1 D (.lst []))) ∧ ∀ i m H, W i m H →
  (J.stop i H ∧ Q (.ref D) H) ∨ (J.go i H ∧ ∃ Nx : Hp → Prop, (∀ H', Nx H' → ∃ m', m' < m ∧ W (i + 1) m' H') ∧ ∀ x H', J.yld i H x H' → g x (wipe σ vs) H' fun σ2 H2 => wipe σ2 vs = wipe σ vs ∧ tt σ2 H2 fun b H3 =>
    if b = true then te σ2 H3 fun y H4 => ∃ acc, H4 D = some (.lst acc) ∧ acc.length < sizeLine ∧ Nx (upd H4 D (.lst (acc ++ [y]))) else Nx H3)
theorem r_lc {wi : TI} {vs : List Nat} (h : wi σ H fun J H1 => LcL J g tt te vs σ H1 Q) : tLc wi g tt te vs σ H Q := h
theorem C_range {lo : Int} {n : Nat} {vs : List Nat} (Pv : Addr → Nat → Hp → Prop) (h0 : ∀ D, H D = none → Pv D 0 (upd H D (.lst [])))
    (hs : ∀ D i H', i < n → Pv D i H' → g (.int (lo + i)) (wipe σ vs) H' fun σ2 H2 => wipe σ2 vs = wipe σ vs ∧ tt σ2 H2 fun b H3 =>
      if b = true then te σ2 H3 fun y H4 => ∃ acc, H4 D = some (.lst acc) ∧ acc.length < sizeLine ∧ Pv D (i + 1) (upd H4 D (.lst (acc ++ [y]))) else Pv D (i + 1) H3) (hd : ∀ D H', H D = none → Pv D n H' → Q (.ref D) H') : LcL (Itr lo n) g tt te vs σ H Q :=
  fun D hD => lc_range (Pv D) (h0 D hD) (hs D) (fun H' => hd D H' hD)
theorem C_list {a : Addr} {xs : List V} {vs : List Nat} (Pv : Addr → Nat → Hp → Prop) (h0 : ∀ D, H D = none → Pv D 0 (upd H D (.lst []))) (hl : ∀ D i H, i ≤ xs.length → Pv D i H → SqL K H a xs)
    (hs : ∀ D i x H', xs[i]? = some x → Pv D i H' → g x (wipe σ vs) H' fun σ2 H2 => wipe σ2 vs = wipe σ vs ∧ tt σ2 H2 fun b H3 =>
      if b = true then te σ2 H3 fun y H4 => ∃ acc, H4 D = some (.lst acc) ∧ acc.length < sizeLine ∧ Pv D (i + 1) (upd H4 D (.lst (acc ++ [y]))) else Pv D (i + 1) H3) (hd : ∀ D H', H D = none → Pv D xs.length H' → Q (.ref D) H') : LcL (Itl K a) g tt te vs σ H Q :=
  fun D hD => lc_list (K := K) (a := a) (xs := xs) (Pv D) (h0 D hD) (hl D) (hs D) (fun H' => hd D H' hD)
/-- a for, a comprehension over what is walked as w says -/
theorem L_it {J : It} {n : Nat} {Gd : Hp → Prop} {Y : Nat → Hp → V → Hp → Prop} (w : L2.Walk J n Gd Y) {tb : TS} (Pv : Nat → L2.St → Hp → Prop) (h0 : Pv 0 σ H) (hG : ∀ i σ H, i ≤ n → Pv i σ H → Gd H)
    (hs : ∀ i x σ H H', i < n → Pv i σ H → Y i H x H' → g x σ H' fun σ2 H2 => tb ⟨Pv (i + 1), rt, nx, Pv (i + 1)⟩ σ2 H2) (hd : ∀ σ H, Pv n σ H → nx σ H) : ForL J g tb nx rt σ H :=
  for_it w (D := ⟨nx, rt, nx, nx⟩) Pv h0 hG hs hd
theorem C_it {J : It} {n : Nat} {Gd : Hp → Prop} {Y : Nat → Hp → V → Hp → Prop} (w : L2.Walk J n Gd Y) {vs : List Nat} (Pv : Addr → Nat → Hp → Prop) (h0 : ∀ D, H D = none → Pv D 0 (upd H D (.lst []))) (hG : ∀ D i H, i ≤ n → Pv D i H → Gd H)
    (hs : ∀ D i x H1 H', i < n → Pv D i H1 → Y i H1 x H' → g x (wipe σ vs) H' fun σ2 H2 => wipe σ2 vs = wipe σ vs ∧ tt σ2 H2 fun b H3 =>
      if b = true then te σ2 H3 fun y H4 => ∃ acc, H4 D = some (.lst acc) ∧ acc.length < sizeLine ∧ Pv D (i + 1) (upd H4 D (.lst (acc ++ [y]))) else Pv D (i + 1) H3) (hd : ∀ D H', H D = none → Pv D n H' → Q (.ref D) H') : LcL J g tt te vs σ H Q :=
  fun D hD => lc_it w (Pv D) (h0 D hD) (hG D) (hs D) (fun H' => hd D H' hD)
theorem r_wip {vs : List Nat} {σ2 : L2.St} {B : Prop} (e : wipe σ2 vs = wipe σ vs) (h : B) : wipe σ2 vs = wipe σ vs ∧ B := ⟨e, h⟩
theorem r_d {c A B : Prop} [Decidable c] (h1 : c → A) (h2 : ¬ c → B) : if decide c = true then A else B := r_ite (fun h => h1 (of_decide_eq_true h)) (fun h => h2 (of_decide_eq_false h))
theorem r_nd {c A B : Prop} [Decidable c] (h1 : ¬ c → A) (h2 : c → B) : if (!decide c) = true then A else B := r_ite (fun h => h1 (of_decide_eq_false (by simpa using h))) (fun h => h2 (of_decide_eq_true (by simpa using h)))
theorem mulL {a b : Int} (h1 : -(2 ^ 64) < a) (h2 : a < 2 ^ 64) : CMul a b := .inl ⟨h1, h2⟩
theorem mulR {a b : Int} (h1 : -(2 ^ 64) < b) (h2 : b < 2 ^ 64) : CMul a b := .inr ⟨h1, h2⟩
theorem powS {a b : Int} (h0 : 0 ≤ b) (h1 : b ≤ 1000000) (h2 : a.natAbs < 2 ^ 64) : CPow a b := ⟨h0, h1, h2⟩
theorem divS {a b : Int} (h0 : 0 < b) (h1 : b.natAbs < 2 ^ 220) : CDivW a b := wide_div h0 h1 (by decide) (by decide)
end
theorem dint' {a b : Int} : decide (V.int a = V.int b) = decide (a = b) := decide_eq_decide.mpr ⟨fun h => V.int.inj h, fun h => by rw [h]⟩
theorem dec_s {a b : Str} : decide (a = b) = (a == b) := by by_cases h : a = b <;> simp [h]
theorem bits250 {a : Int} (h1 : -(2 ^ 250) < a) (h2 : a < 2 ^ 250) : a.natAbs < 2 ^ 250 := by
  have e : (2 : Int) ^ 250 = ((2 ^ 250 : Nat) : Int) := by decide +kernel
  rw [e] at h1 h2
  generalize (2 : Nat) ^ 250 = z at h1 h2 ⊢
  omega
theorem mulWW {a b : Int} (h1 : -1809251394333065553493296640760748560207343510400633813116524750123642650624 < a) (h2 : a < 1809251394333065553493296640760748560207343510400633813116524750123642650624) (h3 : -1809251394333065553493296640760748560207343510400633813116524750123642650624 < b) (h4 : b < 1809251394333065553493296640760748560207343510400633813116524750123642650624) : CMulW a b :=
  wide_mul (a := 250) (b := 250) (bits250 h1 h2) (bits250 h3 h4) (by decide) (by decide) (by decide)
/-- a power of a number of at most 250 bits -/
def CPowW (i j : Int) : Prop := 0 ≤ j ∧ j ≤ 1000 ∧ i.natAbs < 2 ^ 250
theorem op_powW {X : Cx} : OpR X (binaryOp .Pow) (rI CPowW fun i j => .int (i ^ j.toNat)) := opI fun i j _ _ _ _ _ hc q => by
  obtain ⟨h1, h2, h3⟩ := hc
  refine PyProof.Rows.pow_int h1 ?_ q
  have b := PyProof.Rows.intBits_le h3
  have m : (Builtin.Int.intBits i : Int) * j ≤ 250 * j := Int.mul_le_mul_of_nonneg_right (by omega) h1
  omega
theorem powWW {a b : Int} (h0 : 0 ≤ b) (h9 : b ≤ 1000) (h1 : -1809251394333065553493296640760748560207343510400633813116524750123642650624 < a) (h2 : a < 1809251394333065553493296640760748560207343510400633813116524750123642650624) : CPowW a b := ⟨h0, h9, bits250 h1 h2⟩
theorem hu65_of {A : Around} {k : Nat} (hr : Room k A) : A.units + 65 < cLine := by
  have := hr.un
  omega
theorem sz {n : Nat} (h : n ≤ 100000) : n ≤ sizeLine := Nat.le_trans h (by decide)
theorem szl {n : Nat} (h : n < 100000) : n < sizeLine := Nat.lt_of_lt_of_le h (by decide)
/-! ### heaps -/
/-- all that was tracked but at p is as it was -/
def But (p : Addr) (H H' : Hp) : Prop := ∀ b o, H b = some o → b ≠ p → H' b = some o
theorem But.refl {p : Addr} {H : Hp} : But p H H := fun _ _ h _ => h
theorem But.trans {p : Addr} {H H1 H2 : Hp} (a : But p H H1) (b : But p H1 H2) : But p H H2 := fun c o h n => b c o (a c o h n) n
theorem But.of {p : Addr} {H H' : Hp} (s : Same H H') : But p H H' := fun b o h _ => s b o h
theorem But.upd {p : Addr} {H : Hp} {o : HO} : But p H (upd H p o) := fun b u h n => by rw [upd_ne n]; exact h
theorem But.upd' {p q : Addr} {H H' : Hp} {o : HO} (h : But p H H') (n : H q = none) : But p H (L2.upd H' q o) := fun b u e k => by
  rw [upd_ne (ne_of_none e n)]
  exact h b u e k
theorem But.back1 {p : Addr} {H H' : Hp} {u : HO} (h : But p H H') (e : H p = some u) : Same H (L2.upd H' p u) := fun b o eb => by
  by_cases z : b = p
  · rw [z] at eb ⊢
    rw [L2.upd_same, ← eb, e]
  · rw [upd_ne z]
    exact h b o eb z
theorem atI_last {xs : List V} {v : V} : atI (xs ++ [v]) (-1) = some v := by
  have l : (xs ++ [v]).length = xs.length + 1 := by simp
  unfold atI ixN
  rw [l, if_neg (by decide), if_pos (by omega)]
  show (xs ++ [v])[((-1 : Int) + ((xs.length + 1 : Nat) : Int)).toNat]? = some v
  have : ((-1 : Int) + ((xs.length + 1 : Nat) : Int)).toNat = xs.length := by omega
  rw [this, List.getElem?_append_right (Nat.le_refl _), Nat.sub_self]
  rfl
theorem But.free {p q : Addr} {H H' : Hp} (b : But p H H') (hq : H' q = none) (hp' : H' p ≠ none) : H q = none := by
  cases e : H q with
  | none => rfl
  | some u =>
    by_cases z : q = p
    · rw [z] at hq
      exact absurd hq hp'
    · rw [b q u e z] at hq
      cases hq
theorem same_new {H : Hp} {p : Addr} {o : HO} (h : H p = none) : Same H (upd H p o) := fun b x e => by
  rw [upd_ne (ne_of_none e h)]
  exact e
theorem Same.upd' {q : Addr} {H H' : Hp} {o : HO} (h : Same H H') (n : H q = none) : Same H (L2.upd H' q o) := fun b u e => by
  rw [upd_ne (ne_of_none e n)]
  exact h b u e
/-- what is new since H may be changed -/
theorem Same.own {q : Addr} {H H' : Hp} {o : HO} (h : Same H H') (n : H q = none) : Same H (L2.upd H' q o) := Same.upd' h n
theorem ne_at {H : Hp} {a b : Addr} {o u : HO} (h : H a = some o) (h' : H b = some u) (n : o ≠ u) : a ≠ b := by
  intro e
  subst e
  rw [h] at h'
  exact n (Option.some.inj h')
theorem Same.free' {H H' : Hp} {q : Addr} (h : Same H H') (n : H' q = none) : H q = none := h.free n
theorem But.back {p : Addr} {H H1 H2 : Hp} (s : Same H H1) (n : H p = none) (b : But p H1 H2) : Same H H2 := fun c o e => b c o (s c o e) (ne_of_none e n)
/-- the bag: three whole numbers; the second one stays below 2 ^ 62, the third one counts -/
def BagAt (H : Hp) (p : Addr) (n : Nat) : Prop := ∃ a b c : Int, H p = some (.lst [.int a, .int b, .int c]) ∧ 0 ≤ b ∧ b < 4611686018427387904 ∧ 0 ≤ c ∧ c ≤ n
theorem BagAt.mono {H : Hp} {p : Addr} {n m : Nat} (h : BagAt H p n) (l : n ≤ m) : BagAt H p m := by
  obtain ⟨a, b, c, e, h1, h2, h3, h4⟩ := h
  exact ⟨a, b, c, e, h1, h2, h3, by omega⟩
theorem BagAt.there {H : Hp} {p : Addr} {n : Nat} (h : BagAt H p n) : H p ≠ none := by
  obtain ⟨a, b, c, e, _⟩ := h
  rw [e]
  simp
theorem BagAt.same {H H' : Hp} {p : Addr} {n : Nat} (h : BagAt H p n) (s : Same H H') : BagAt H' p n := by
  obtain ⟨a, b, c, e, r⟩ := h
  exact ⟨a, b, c, s _ _ e, r⟩
theorem BagAt.upd {H : Hp} {p q : Addr} {n : Nat} {o : HO} (h : BagAt H p n) (hq : H q = none) : BagAt (upd H q o) p n := h.same (same_new hq)
/-- what stood at another address is the bag no more -/
theorem BagAt.ne {H : Hp} {p q : Addr} {n : Nat} (h : BagAt H p n) {xs : List V} (e : H q = some (.tup xs)) : q ≠ p := by
  intro z
  subst z
  obtain ⟨a, b, c, e', _⟩ := h
  rw [e] at e'
  cases e'
end G
local macro_rules | `(tactic| walk_at "r1") => `(tactic| first
  | with_reducible refine G.r_seq ?_ | with_reducible refine G.r_asg ?_ | ((with_reducible refine' G.r_name ?r_h ?_); (case r_h => (simp only [List.map_cons, List.map_nil, L2.wipe, List.set_cons_zero, List.set_cons_succ]; exact rfl))) | with_reducible refine G.r_ret ?_ | with_reducible refine G.r_if ?_
  | ((with_reducible refine' G.r_var ?r_h ?_); (case r_h => rfl)) | with_reducible refine G.r_c ?_ | with_reducible refine G.r_op ?_ | with_reducible refine G.r_i0 ?_
  | with_reducible refine G.r_cons ?_ | with_reducible refine G.r_nil ?_ | with_reducible refine G.r_cal ?_ | with_reducible refine G.r_calS ?_ | with_reducible refine G.r_raise ?_ | with_reducible refine G.r_try1 ?_ | with_reducible refine G.r_cb ?_ | with_reducible refine G.r_cbk ?_ | with_reducible refine G.r_chain ?_ | with_reducible refine G.r_meth ?_ | with_reducible refine G.r_make ?_ | with_reducible refine G.r_fld ?_ | with_reducible refine G.r_sfld ?_ | with_reducible refine G.r_test ?_ | with_reducible refine G.r_tB ?_
  | with_reducible refine G.r_bl ?_ | with_reducible refine G.r_next ?_ | with_reducible refine G.r_isT ?_ | with_reducible refine G.r_isF ?_ | with_reducible refine G.r_ntT ?_ | with_reducible refine G.r_ntF ?_ | with_reducible refine G.r_eqI ?_ | with_reducible refine G.r_neI ?_ | with_reducible refine G.r_eqS ?_ | with_reducible refine G.r_neS ?_ | ((with_reducible refine' G.r_eq ?r_h ?_); (case r_h => rfl)) | ((with_reducible refine' G.r_ne ?r_h ?_); (case r_h => rfl))
  | with_reducible refine G.r_u ?_ | with_reducible refine G.r_un ?_ | with_reducible refine G.r_and ?_ | with_reducible refine G.r_or ?_ | with_reducible refine G.r_not ?_ | with_reducible refine G.r_andV ?_ | with_reducible refine G.r_orV ?_
  | with_reducible refine G.r_ifT ?_ | with_reducible refine G.r_ifF ?_ | with_reducible refine G.r_ifnT ?_ | with_reducible refine G.r_ifnF ?_ | with_reducible refine G.r_isiS ?_ | with_reducible refine G.r_isiI ?_ | with_reducible refine G.r_isiB ?_ | with_reducible refine G.r_isiBl ?_
  | with_reducible refine G.r_notV ?_ | with_reducible refine G.r_ifE ?_ | with_reducible refine G.r_tup ?_ | with_reducible refine G.r_lst ?_ | with_reducible refine G.r_drop ?_ | with_reducible refine G.r_retN ?_
  | with_reducible refine G.r_brk ?_ | with_reducible refine G.r_cont ?_ | with_reducible refine G.r_sub ?_ | with_reducible refine G.r_gcons ?_ | with_reducible refine G.r_gnil ?_ | with_reducible refine G.r_bm ?_ | with_reducible refine G.r_m1 ?_ | with_reducible refine G.r_isS ?_ | with_reducible refine G.r_bm0 ?_
  | with_reducible refine G.r_slc ?_ | with_reducible refine G.r_nop ?_ | with_reducible refine G.r_part ?_ | with_reducible refine G.r_int ?_ | with_reducible refine G.r_yes2 ?_ | with_reducible refine G.r_revL ?_ | with_reducible refine G.r_dget ?_ | with_reducible refine G.r_din ?_ | with_reducible refine G.r_dnin ?_ | with_reducible refine G.r_dput ?_ | with_reducible refine G.r_yes ?_
  | with_reducible refine G.r_for ?_ | with_reducible refine G.r_rng1 ?_ | with_reducible refine G.r_rng2 ?_ | with_reducible refine G.r_rng3 ?_ | with_reducible refine G.r_ilst ?_ | with_reducible refine G.r_ienum ?_ | with_reducible refine G.r_irev ?_ | with_reducible refine G.r_itup ?_ | with_reducible refine G.r_ikeys ?_ | with_reducible refine G.r_istr ?_ | with_reducible refine G.r_izip ?_ | with_reducible refine G.r_lc ?_ | with_reducible refine G.r_wh ?_ | with_reducible refine G.r_pcons ?_ | with_reducible refine G.r_pnil ?_
  | ((with_reducible refine' G.r_rngv ?r_h ?r_e ?_); (case r_h => omega); (case r_e => omega))
  | ((with_reducible refine' G.r_wip ?r_h ?_); (case r_h => rfl))
  | ((with_reducible refine' G.r_ixl ?r_h ?r_e ?_); (case r_h => assumption); (case r_e => rfl))
  | ((with_reducible refine' G.r_ixt ?r_h ?r_e ?_); (case r_h => assumption); (case r_e => rfl))
  | ((with_reducible refine' G.r_gtup ?r_h ?r_e ?_); (case r_h => assumption); (case r_e => rfl))
  | ((with_reducible refine' G.r_i ?r_h ?_); (case r_h => first
      | (with_reducible exact G.mulL (by omega) (by omega)) | (with_reducible exact G.mulR (by omega) (by omega)) | (with_reducible exact G.mulR (by decide) (by decide)) | (with_reducible exact G.mulL (by decide) (by decide)) | (with_reducible exact G.powS (by omega) (by omega) (by omega)) | (with_reducible exact G.mulWW (by omega) (by omega) (by omega) (by omega)) | (with_reducible exact G.powWW (by omega) (by omega) (by omega) (by omega)) | (with_reducible exact G.divS (by omega) (by omega)) | (with_reducible exact G.divS (by assumption) (by assumption)) | (with_reducible assumption) | (show (0 : Int) < _; omega))))
local macro_rules | `(tactic| walk_at "rr") => `(tactic| repeat (walk_at "r1"))

namespace G
open PySem L2
/-! ### what kind of thing a value is -/
def kinds7 : List String := ["NoneType", "bool", "int", "str", "list", "tuple", "dict"]
theorem kit_tuple : ∀ T ∈ kinds7, kitB T "tuple" = some (T == "tuple") := by decide +kernel
theorem kit_list : ∀ T ∈ kinds7, kitB T "list" = some (T == "list") := by decide +kernel
theorem kit_str : ∀ T ∈ kinds7, kitB T "str" = some (T == "str") := by decide +kernel
theorem kit_bool : ∀ T ∈ kinds7, kitB T "bool" = some (T == "bool") := by decide +kernel
theorem kit_int : ∀ T ∈ kinds7, kitB T "int" = some (T == "int" || T == "bool") := by decide +kernel
theorem whole_of : ∀ T ∈ kinds7, ((T == "int" || T == "bool") && !(T == "bool")) = (T == "int") := by decide +kernel
section
variable {K : PySem.W.Frag} {H H' : Hp} {v : V} {t : Value}
theorem ty_tup {a : Addr} {xs : List V} (h : H a = some (.tup xs)) : TyX K H (.ref a) (.type "tuple") := .base (.tup h)
theorem ty_lst {a : Addr} {xs : List V} (h : H a = some (.lst xs)) : TyX K H (.ref a) (.type "list") := .base (.lst h)
theorem ty_dK {a : Addr} {xs : List (Key × V)} (h : H a = some (.dK xs)) : TyX K H (.ref a) (.type "dict") := .base (.dK h)
theorem ty_int {i : Int} : TyX K H (.int i) (.type "int") := .base (.int i)
theorem ty_str {i : Str} : TyX K H (.str i) (.type "str") := .base (.str i)
theorem ty_bl {i : Bool} : TyX K H (.bl i) (.type "bool") := .base (.bl i)
theorem ty_non : TyX K H .non (.type "NoneType") := .base .non
theorem TyOf.same (s : Same H H') (h : TyOf K H v t) : TyOf K H' v t := by
  cases h with
  | non => exact .non
  | bl x => exact .bl x
  | int x => exact .int x
  | str x => exact .str x
  | flt x => exact .flt x
  | lst e => exact .lst (s _ _ e)
  | frz e => exact .frz (s _ _ e)
  | tup e => exact .tup (s _ _ e)
  | dK e => exact .dK (s _ _ e)
  | dT e => exact .dT (s _ _ e)
  | ins e a b c d f => exact .ins (s _ _ e) a b c d f
theorem TyX.same (s : Same H H') (h : TyX K H v t) : TyX K H' v t := by
  cases h with
  | base h => exact .base (TyOf.same s h)
  | byt b => exact .byt b
  | set e => exact .set (s _ _ e)
  | kList e c => exact .kList e c
  | kTuple e c => exact .kTuple e c
  | kDict e c => exact .kDict e c
  | fTuple e => exact .fTuple (s _ _ e)
  | fDict e => exact .fDict (s _ _ e)
end
/-- v is something of one of the seven kinds -/
def Some7 (K : PySem.W.Frag) (H : Hp) (v : V) : Prop := ∃ T, TyX K H v (.type T) ∧ T ∈ kinds7
theorem Some7.same {K : PySem.W.Frag} {H H' : Hp} {v : V} (s : Same H H') (h : Some7 K H v) : Some7 K H' v := by
  obtain ⟨T, a, b⟩ := h
  exact ⟨T, TyX.same s a, b⟩
theorem any_non {K : PySem.W.Frag} {H : Hp} : Some7 K H .non := ⟨_, ty_non, by decide⟩
theorem any_bl {K : PySem.W.Frag} {H : Hp} {b : Bool} : Some7 K H (.bl b) := ⟨_, ty_bl, by decide⟩
theorem any_int {K : PySem.W.Frag} {H : Hp} {b : Int} : Some7 K H (.int b) := ⟨_, ty_int, by decide⟩
theorem any_str {K : PySem.W.Frag} {H : Hp} {b : Str} : Some7 K H (.str b) := ⟨_, ty_str, by decide⟩
theorem any_tup {K : PySem.W.Frag} {H : Hp} {a : Addr} {xs : List V} (h : H a = some (.tup xs)) : Some7 K H (.ref a) := ⟨_, ty_tup h, by decide⟩
theorem any_lst {K : PySem.W.Frag} {H : Hp} {a : Addr} {xs : List V} (h : H a = some (.lst xs)) : Some7 K H (.ref a) := ⟨_, ty_lst h, by decide⟩
theorem any_dK {K : PySem.W.Frag} {H : Hp} {a : Addr} {xs : List (Key × V)} (h : H a = some (.dK xs)) : Some7 K H (.ref a) := ⟨_, ty_dK h, by decide⟩
/-- a worth by its word and number -/
def isW (s : Str) (n : Int) : Bool := s == "num" || ((s == "at" || s == "box" || s == "go") && decide (0 ≤ n))
/-- v is a thing, and b says whether it is a worth -/
inductive Th (K : PySem.W.Frag) (H : Hp) : V → Bool → Prop
  | other {v : V} {T : String} (h : TyX K H v (.type T)) (m : T ∈ kinds7) (n : (T == "tuple") = false) : Th K H v false
  | tupN {a : Addr} {xs : List V} (h : H a = some (.tup xs)) (n : xs.length ≠ 2) : Th K H (.ref a) false
  | tupX {a : Addr} {x y : V} {T : String} (h : H a = some (.tup [x, y])) (hx : TyX K H x (.type T)) (m : T ∈ kinds7) (n : (T == "str") = false) : Th K H (.ref a) false
  | tupY {a : Addr} {s : Str} {y : V} {T : String} (h : H a = some (.tup [.str s, y])) (hy : TyX K H y (.type T)) (m : T ∈ kinds7) (n : (T == "int") = false) : Th K H (.ref a) false
  | tupW {a : Addr} {s : Str} {n : Int} (h : H a = some (.tup [.str s, .int n])) : Th K H (.ref a) (isW s n)
/-- only a whole number is of the kind int -/
theorem ty_is_int' {K : PySem.W.Frag} {H : Hp} {v : V} {t : Value} (h : TyX K H v t) (e : t = .type "int") : ∃ n, v = .int n := by
  cases h with
  | base h =>
    cases h with
    | int i => exact ⟨i, rfl⟩
    | _ => first | (cases e; done) | (injection e with e; exact absurd e (by decide))
  | _ => first | (cases e; done) | (injection e with e; exact absurd e (by decide))
theorem ty_is_str' {K : PySem.W.Frag} {H : Hp} {v : V} {t : Value} (h : TyX K H v t) (e : t = .type "str") : ∃ n, v = .str n := by
  cases h with
  | base h =>
    cases h with
    | str i => exact ⟨i, rfl⟩
    | _ => first | (cases e; done) | (injection e with e; exact absurd e (by decide))
  | _ => first | (cases e; done) | (injection e with e; exact absurd e (by decide))
theorem ty_is_int {K : PySem.W.Frag} {H : Hp} {v : V} (h : TyX K H v (.type "int")) : ∃ n, v = .int n := ty_is_int' h rfl
theorem ty_is_str {K : PySem.W.Frag} {H : Hp} {v : V} (h : TyX K H v (.type "str")) : ∃ n, v = .str n := ty_is_str' h rfl
/-- any tuple of two, of any kinds, is a thing -/
theorem Th.pair {K : PySem.W.Frag} {H : Hp} {a : Addr} {x y : V} (h : H a = some (.tup [x, y])) (hx : Some7 K H x) (hy : Some7 K H y) : ∃ b, Th K H (.ref a) b := by
  obtain ⟨T, tx, mx⟩ := hx
  obtain ⟨U, tu, mu⟩ := hy
  cases e : T == "str" with
  | false => exact ⟨_, .tupX h tx mx e⟩
  | true =>
    have e' := eq_of_beq e
    subst e'
    obtain ⟨s, rfl⟩ := ty_is_str tx
    cases e2 : U == "int" with
    | false => exact ⟨_, .tupY h tu mu e2⟩
    | true =>
      have e' := eq_of_beq e2
      subst e'
      obtain ⟨n, rfl⟩ := ty_is_int tu
      exact ⟨_, .tupW h⟩
theorem atI_there {α : Type} {xs : List α} {i : Int} (h0 : 0 ≤ i) (h1 : i < xs.length) : ∃ c, atI xs i = some c := by
  obtain ⟨j, rfl⟩ : ∃ j : Nat, i = (j : Int) := ⟨i.toNat, by omega⟩
  have hj : j < xs.length := by omega
  exact ⟨xs[j], atI_nat (List.getElem?_eq_getElem hj)⟩
theorem r_ixS' {H : Hp} {Q : VK} {z : Str} {i : Int} (hz : z.length ≤ sizeLine) (h0 : 0 ≤ i) (h1 : i < z.length) (h : ∀ c, Q (.str ⟨#[c]⟩) H) : rIxS (.str z) (.int i) H Q := by
  obtain ⟨c, e⟩ : ∃ c, atI z.cps.toList i = some c := atI_there h0 (by rw [Array.length_toList]; exact h1)
  exact ⟨z, i, c, rfl, rfl, hz, e, h c⟩
theorem Th.same {K : PySem.W.Frag} {H H' : Hp} {v : V} {b : Bool} (s : Same H H') (h : Th K H v b) : Th K H' v b := by
  cases h with
  | other h m n => exact .other (TyX.same s h) m n
  | tupN h n => exact .tupN (s _ _ h) n
  | tupX h hx m n => exact .tupX (s _ _ h) (TyX.same s hx) m n
  | tupY h hy m n => exact .tupY (s _ _ h) (TyX.same s hy) m n
  | tupW h => exact .tupW (s _ _ h)
/-- one of the odd things: no tuple, or one of none or two -/
inductive Odd (K : PySem.W.Frag) (H : Hp) : V → Prop
  | other {v : V} {T : String} (h : TyX K H v (.type T)) (m : T ∈ kinds7) (n : (T == "tuple") = false) : Odd K H v
  | tup0 {a : Addr} (h : H a = some (.tup [])) : Odd K H (.ref a)
  | tup2 {a : Addr} {s : Str} {n : Int} (h : H a = some (.tup [.str s, .int n])) : Odd K H (.ref a)
theorem Odd.some7 {K : PySem.W.Frag} {H : Hp} {v : V} (h : Odd K H v) : Some7 K H v := by
  cases h with
  | other h m n => exact ⟨_, h, m⟩
  | tup0 h => exact any_tup h
  | tup2 h => exact any_tup h
theorem Odd.thing {K : PySem.W.Frag} {H : Hp} {v : V} (h : Odd K H v) : ∃ b, Th K H v b := by
  cases h with
  | other h m n => exact ⟨_, .other h m n⟩
  | tup0 h => exact ⟨_, .tupN h (by decide)⟩
  | tup2 h => exact ⟨_, .tupW h⟩
end G

namespace G
open PySem L2
/-! ### a dict of the module's top: texts to texts -/
def keyS : Value → Option Str
  | .str x _ => some x
  | _ => none
theorem keyS_of {v : Value} {x : Str} (h : keyS v = some x) : ∃ t, v = .str x t := by
  cases v with
  | str y t =>
    have e : y = x := Option.some.inj h
    exact ⟨t, by rw [e]⟩
  | _ => cases h
def pairsS (l : List DictEntry) : List (Option Str × Option Str) := l.map fun e => (keyS e.key, keyS e.val)
theorem find_pairs (z : Str) : ∀ {l : List DictEntry} {ks : List (Str × Str)}, pairsS l = ks.map (fun p => (some p.1, some p.2)) →
    (∃ r, (match l.find? (·.key.isStr z) with | some e => some (some e.val) | none => if l.any (·.refKey) then none else some none) = some r ∧ match ks.find? (fun p => decide (p.1 = z)) with | some p => ∃ t, r = some (.str p.2 t) | none => r = none) ∧ l.any (·.refKey) = false
  | [], [], _ => ⟨⟨none, rfl, rfl⟩, rfl⟩
  | [], _ :: _, h => by cases h
  | _ :: _, [], h => by cases h
  | e :: r, k :: ks, h => by
    have h1 : (keyS e.key, keyS e.val) :: pairsS r = (some k.1, some k.2) :: ks.map (fun p => (some p.1, some p.2)) := h
    injection h1 with h2 h3
    obtain ⟨h4, h5⟩ := Prod.mk.inj h2
    obtain ⟨t, h6⟩ := keyS_of h4
    obtain ⟨u, h7⟩ := keyS_of h5
    obtain ⟨⟨q, e1, e2⟩, e3⟩ := find_pairs z h3
    have rk : (e.refKey : Bool) = false := by
      unfold DictEntry.refKey
      rw [h6]
    have e4 : (e :: r).any (·.refKey) = false := by
      rw [List.any_cons, rk, e3]
      rfl
    refine ⟨?_, e4⟩
    by_cases c : k.1 = z
    · have i1 : e.key.isStr z = true := by
        rw [h6, ← c]
        simp [Value.isStr]
      refine ⟨some e.val, ?_, ?_⟩
      · rw [List.find?_cons, i1]
      · rw [List.find?_cons, decide_eq_true c]
        exact ⟨u, by rw [h7]⟩
    · have i1 : e.key.isStr z = false := by
        rw [h6]
        simp [Value.isStr, c]
      refine ⟨q, ?_, ?_⟩
      · rw [List.find?_cons, i1, List.any_cons, rk]
        exact e1
      · rw [List.find?_cons, decide_eq_false c]
        exact e2
theorem nsIn_pairs {K : PySem.W.Frag} {d : Addr} {es : Array DictEntry} {n : Nat} {ks : List (Str × Str)} (l : K.lookup d = some ⟨.type "dict", none, .dict es n, #[]⟩) (h : pairsS es.toList = ks.map (fun p => (some p.1, some p.2))) (z : Str) :
    ∃ r, PySem.W.nsIn K d z = some r ∧ match ks.find? (fun p => decide (p.1 = z)) with | some p => ∃ t, r = some (.str p.2 t) | none => r = none := by
  unfold PySem.W.nsIn
  rw [l]
  exact (find_pairs z h).1
def marks : List (Str × Str) := [("num", ""), ("at", "@"), ("box", "b"), ("go", "g")]
theorem marks_some (z : Str) : (marks.find? (fun p => decide (p.1 = z))).isSome = (z == "num" || (z == "at" || z == "box" || z == "go")) := by
  unfold marks
  by_cases h1 : z = "num"
  · subst h1
    rfl
  by_cases h2 : z = "at"
  · subst h2
    decide +kernel
  by_cases h3 : z = "box"
  · subst h3
    decide +kernel
  by_cases h4 : z = "go"
  · subst h4
    decide +kernel
  · have b : ∀ y : Str, ¬ z = y → decide (y = z) = false ∧ (z == y) = false := fun y h => ⟨decide_eq_false fun e => h e.symm, beq_eq_false_iff_ne.mpr h⟩
    simp only [List.find?_cons, (b _ h1).1, (b _ h2).1, (b _ h3).1, (b _ h4).1, (b _ h1).2, (b _ h2).2, (b _ h3).2, (b _ h4).2, List.find?_nil, Option.isSome_none, Bool.or_false]
end G

namespace G
open PySem L2
/-! ### worths, as they stand in the heap -/
abbrev Wo := Str × Int
def wv (w : Wo) : List V := [.str w.1, .int w.2]
/-- v is a tuple of w's text and number -/
def WoAt (H : Hp) (v : V) (w : Wo) : Prop := ∃ a, v = .ref a ∧ H a = some (.tup (wv w)) ∧ PyData.strOk w.1 = true
theorem WoAt.mk {H : Hp} {a : Addr} {s : Str} {n : Int} (h : H a = some (.tup [.str s, .int n])) (o : PyData.strOk s = true) : WoAt H (.ref a) (s, n) := ⟨a, rfl, h, o⟩
abbrev Wos (H : Hp) := Paired (WoAt H)
def wd (w : Wo) : PyData := .tuple [.str w.1, .int w.2]
section
variable {K : PySem.W.Frag} {H H' : Hp} {v : V} {w : Wo} {xs : List V} {ws : List Wo} {p : Addr} {n : Nat}
theorem WoAt.same (s : Same H H') (h : WoAt H v w) : WoAt H' v w := by
  obtain ⟨a, e, h, o⟩ := h
  exact ⟨a, e, s _ _ h, o⟩
theorem Wos.same (s : Same H H') (h : Wos H xs ws) : Wos H' xs ws := Paired.mapP h fun _ _ => WoAt.same s
theorem WoAt.but (b : But p H H') (B : BagAt H p n) (h : WoAt H v w) : WoAt H' v w := by
  obtain ⟨a, e, h, o⟩ := h
  exact ⟨a, e, b _ _ h (B.ne h), o⟩
theorem Wos.but (b : But p H H') (B : BagAt H p n) (h : Wos H xs ws) : Wos H' xs ws := Paired.mapP h fun _ _ => WoAt.but b B
/-- another list at l -/
theorem WoAt.upd {l : Addr} {o : HO} {ys : List V} (hl : H l = some (.lst ys)) (h : WoAt H v w) : WoAt (upd H l o) v w := by
  obtain ⟨a, e, h, k⟩ := h
  exact ⟨a, e, by rw [upd_ne (ne_of h hl (by intro q; cases q))]; exact h, k⟩
theorem Wos.upd {l : Addr} {o : HO} {ys : List V} (hl : H l = some (.lst ys)) (h : Wos H xs ws) : Wos (L2.upd H l o) xs ws := Paired.mapP h fun _ _ => WoAt.upd hl
theorem WoAt.dp (h : WoAt H v w) : Dp K H v (wd w) := by
  obtain ⟨a, rfl, h, _⟩ := h
  exact .tup (.inl (.inl h)) (.cons (.str _) (.cons (.int _) .nil))
theorem Wos.dp : ∀ {xs : List V} {ws : List Wo}, Wos H xs ws → DpAll K H xs (ws.map wd)
  | _, _, .nil => .nil
  | _, _, .cons a b => .cons a.dp (Wos.dp b)
theorem Wos.len : ∀ {xs : List V} {ws : List Wo}, Wos H xs ws → xs.length = ws.length
  | _, _, .nil => rfl
  | _, _, .cons _ b => by rw [List.length_cons, List.length_cons, Wos.len b]
theorem Wos.app {ys : List V} {us : List Wo} (h : Wos H xs ws) (g : Wos H ys us) : Wos H (xs ++ ys) (ws ++ us) := by
  induction h with
  | nil => exact g
  | cons a _ ih => exact .cons a ih
theorem Wos.one (h : WoAt H v w) : Wos H [v] [w] := .cons h .nil
theorem Wos.get : ∀ {xs : List V} {ws : List Wo} {i : Nat} {v : V}, Wos H xs ws → xs[i]? = some v → ∃ w, ws[i]? = some w ∧ WoAt H v w
  | _, _, _, _, .nil, e => by cases e
  | _, _, 0, _, .cons a _, e => ⟨_, rfl, by rw [← Option.some.inj e]; exact a⟩
  | _, _, i + 1, _, .cons _ b, e => Wos.get (i := i) b e
theorem Wos.at : ∀ {xs : List V} {ws : List Wo} {i : Nat} {w : Wo}, Wos H xs ws → ws[i]? = some w → ∃ v, xs[i]? = some v ∧ WoAt H v w
  | _, _, _, _, .nil, e => by cases e
  | _, _, 0, _, .cons a _, e => ⟨_, rfl, by rw [← Option.some.inj e]; exact a⟩
  | _, _, i + 1, _, .cons _ b, e => Wos.at (i := i) b e
theorem Wos.take : ∀ {xs : List V} {ws : List Wo} (n : Nat), Wos H xs ws → Wos H (xs.take n) (ws.take n)
  | _, _, 0, _ => .nil
  | _, _, _ + 1, .nil => .nil
  | _, _, n + 1, .cons a b => .cons a (Wos.take n b)
theorem Wos.drop : ∀ {xs : List V} {ws : List Wo} (n : Nat), Wos H xs ws → Wos H (xs.drop n) (ws.drop n)
  | _, _, 0, h => h
  | _, _, _ + 1, .nil => .nil
  | _, _, n + 1, .cons _ b => Wos.drop n b
theorem Wos.rev {xs : List V} {ws : List Wo} (h : Wos H xs ws) : Wos H xs.reverse ws.reverse := by
  induction h with
  | nil => exact .nil
  | cons a _ ih =>
    rw [List.reverse_cons, List.reverse_cons]
    exact ih.app (.one a)
theorem eqv_wd (a b : Wo) : PyData.eqv (wd a) (wd b) = decide (a = b) := by
  obtain ⟨x, i⟩ := a
  obtain ⟨y, j⟩ := b
  show (x == y && (i == j && true)) = _
  rw [Bool.eq_iff_iff]
  simp
theorem eqvAll_wds : ∀ a b : List Wo, PyData.eqvAll (a.map wd) (b.map wd) = decide (a = b)
  | [], [] => rfl
  | [], _ :: _ => rfl
  | _ :: _, [] => rfl
  | x :: r, y :: s => by
    show (PyData.eqv (wd x) (wd y) && PyData.eqvAll (r.map wd) (s.map wd)) = _
    rw [eqv_wd, eqvAll_wds r s, Bool.eq_iff_iff]
    simp
theorem eqv_wds (a b : List Wo) : PyData.eqv (.list (a.map wd)) (.list (b.map wd)) = decide (a = b) := eqvAll_wds a b
theorem WoAt.ok (h : WoAt H v w) : PyData.strOk w.1 = true := by
  obtain ⟨_, _, _, k⟩ := h
  exact k
theorem Wos.ok : ∀ {xs : List V} {ws : List Wo}, Wos H xs ws → ∀ w ∈ ws, PyData.strOk w.1 = true
  | _, _, .nil, _, h => by cases h
  | _, _, .cons a b, w, h => by
    rcases List.mem_cons.mp h with e | e
    · rw [e]
      exact a.ok
    · exact Wos.ok b w e
theorem shaped_wd {a : Wo} (h : PyData.strOk a.1 = true) : SeqAt.shaped (wd a) = true := by
  simp [SeqAt.shaped, wd, PyData.canLay0, PyData.canLayAll0, PyData.depth, PyData.depthAll, h]
theorem lay_wds : ∀ a : List Wo, (∀ w ∈ a, PyData.strOk w.1 = true) → PyData.canLayAll0 (a.map wd) = true ∧ PyData.depthAll (a.map wd) ≤ 1
  | [], _ => ⟨by simp [PyData.canLayAll0], by simp [PyData.depthAll]⟩
  | x :: r, h => by
    obtain ⟨h1, h2⟩ := lay_wds r fun w m => h w (List.mem_cons_of_mem _ m)
    constructor
    · simp [PyData.canLayAll0, wd, PyData.canLay0, h1, h x List.mem_cons_self]
    · have e : PyData.depthAll ((x :: r).map wd) = max 1 (PyData.depthAll (r.map wd)) := by
        simp [PyData.depthAll, wd, PyData.depth]
      rw [e]
      omega
theorem shaped_wds {a : List Wo} (h : ∀ w ∈ a, PyData.strOk w.1 = true) : SeqAt.shaped (.list (a.map wd)) = true := by
  obtain ⟨h1, h2⟩ := lay_wds a h
  simp [SeqAt.shaped, PyData.canLay0, h1, PyData.depth]
  omega
theorem any_wds (w : Wo) (ws : List Wo) : ((ws.map wd).any fun z => PyData.eqv z (wd w)) = decide (w ∈ ws) := by
  rw [List.any_map, Bool.eq_iff_iff, List.any_eq_true]
  simp only [Function.comp, decide_eq_true_eq, eqv_wd]
  exact ⟨fun ⟨x, h1, h2⟩ => h2 ▸ h1, fun h => ⟨w, h, rfl⟩⟩
end
/-- a list of worths at a -/
def PileAt (H : Hp) (a : Addr) (ws : List Wo) : Prop := ∃ xs, H a = some (.lst xs) ∧ Wos H xs ws
theorem PileAt.same {H H' : Hp} {a : Addr} {ws : List Wo} (s : Same H H') (h : PileAt H a ws) : PileAt H' a ws := by
  obtain ⟨xs, e, h⟩ := h
  exact ⟨xs, s _ _ e, h.same s⟩
theorem PileAt.dp {K : PySem.W.Frag} {H : Hp} {a : Addr} {ws : List Wo} (h : PileAt H a ws) : Dp K H (.ref a) (.list (ws.map wd)) := by
  obtain ⟨xs, e, h⟩ := h
  exact .lst (.inl (.inl e)) h.dp
theorem PileAt.app {H : Hp} {l : Addr} {xs : List V} {ws us : List Wo} {ys : List V} (hl : H l = some (.lst ys)) (h : Wos H xs ws) (g : ws = us) : PileAt (upd H l (.lst xs)) l us := by
  subst g
  exact ⟨xs, upd_same, h.upd hl⟩
theorem paired_dp {K : PySem.W.Frag} {H : Hp} {v : V} {w : Wo} (h : WoAt H v w) : Dp K H v (wd w) := h.dp
theorem r_eqD {K : PySem.W.Frag} {H : Hp} {Q : VK} {x y : V} {d e : PyData} (h1 : Dp K H x d) (h2 : Dp K H y e) (s1 : SeqAt.shaped d = true) (s2 : SeqAt.shaped e = true) (q : Q (.bl (PyData.eqv d e)) H) : rEqD K x y H Q := ⟨d, e, h1, h2, s1, s2, q⟩
theorem r_neD {K : PySem.W.Frag} {H : Hp} {Q : VK} {x y : V} {d e : PyData} (h1 : Dp K H x d) (h2 : Dp K H y e) (s1 : SeqAt.shaped d = true) (s2 : SeqAt.shaped e = true) (q : Q (.bl (!PyData.eqv d e)) H) : rNeD K x y H Q := ⟨d, e, h1, h2, s1, s2, q⟩
theorem r_slL {K : PySem.W.Frag} {H : Hp} {Q : VK} {a : Addr} {xs : List V} {lo hi : Option Int} (h : SqL K H a xs) (q : ∀ p, H p = none → Q (.ref p) (upd H p (.lst (cutV xs lo hi)))) : rSlL K (.ref a) lo hi H Q := ⟨a, xs, rfl, h, q⟩
theorem cut_to (xs : List V) (n : Nat) : cutV xs none (some (n : Int)) = xs.take n := by
  unfold cutV
  rw [HT.sIx_none, HT.sIx_nat, List.drop_zero, Nat.sub_zero]
  by_cases h : n ≤ xs.length
  · rw [Nat.min_eq_left h]
  · rw [Nat.min_eq_right (by omega), List.take_of_length_le (Nat.le_refl _), List.take_of_length_le (by omega)]
end G

namespace G
open PySem L2
/-! ### the things among worths -/
def isT (w : Wo) : Bool := w.1 == "box" || w.1 == "go"
def thStep (acc : List Wo) (w : Wo) : List Wo := if isT w && !decide (w ∈ acc) then acc ++ [w] else acc
def thingsOf (ws : List Wo) : List Wo := ws.foldl thStep []
theorem thStep_no {acc : List Wo} {w : Wo} (h : isT w = false) : thStep acc w = acc := by
  unfold thStep
  rw [h, Bool.false_and]
  rfl
theorem thStep_old {acc : List Wo} {w : Wo} (m : w ∈ acc) : thStep acc w = acc := by
  unfold thStep
  rw [decide_eq_true m, Bool.not_true, Bool.and_false]
  rfl
theorem thStep_new {acc : List Wo} {w : Wo} (h : isT w = true) (m : ¬ w ∈ acc) : thStep acc w = acc ++ [w] := by
  unfold thStep
  rw [decide_eq_false m, h]
  rfl
theorem mem_things {ws : List Wo} {w : Wo} (h : w ∈ thingsOf ws) : w ∈ ws ∧ isT w = true := by
  have : ∀ (l acc : List Wo), w ∈ l.foldl thStep acc → w ∈ acc ∨ (w ∈ l ∧ isT w = true) := by
    intro l
    induction l with
    | nil => intro acc h; exact .inl h
    | cons x r ih =>
      intro acc h
      rcases ih _ h with h | h
      · by_cases t : isT x = true
        · by_cases m : x ∈ acc
          · rw [thStep_old m] at h
            exact .inl h
          · rw [thStep_new t m] at h
            rcases List.mem_append.mp h with h | h
            · exact .inl h
            · have e := List.mem_singleton.mp h
              subst e
              exact .inr ⟨List.mem_cons_self, t⟩
        · rw [thStep_no (by simpa using t)] at h
          exact .inl h
      · exact .inr ⟨List.mem_cons_of_mem _ h.1, h.2⟩
  have := this ws [] h
  simpa using this
theorem thStep_len (acc : List Wo) (w : Wo) : (thStep acc w).length ≤ acc.length + 1 := by
  unfold thStep
  split
  · simp
  · omega
theorem foldl_take {α β : Type} (f : β → α → β) (b : β) (ws : List α) (i : Nat) (w : α) (h : ws[i]? = some w) : (ws.take (i + 1)).foldl f b = f ((ws.take i).foldl f b) w := by
  rw [List.take_add_one, h, List.foldl_append]
  rfl
theorem things_len (ws : List Wo) : (thingsOf ws).length ≤ ws.length := by
  have : ∀ (l acc : List Wo), (l.foldl thStep acc).length ≤ acc.length + l.length := by
    intro l
    induction l with
    | nil => intro acc; simp
    | cons x r ih =>
      intro acc
      have h1 := ih (thStep acc x)
      have h2 := thStep_len acc x
      rw [List.foldl_cons, List.length_cons]
      omega
  have := this ws []
  simpa [thingsOf] using this
def wk (w : Wo) : List Key := [.inr w.1, .inl w.2]
theorem wk_kV (w : Wo) : (wk w).map kV = wv w := rfl
theorem wk_inj {a b : Wo} (h : wk a = wk b) : a = b := by
  obtain ⟨x, i⟩ := a
  obtain ⟨y, j⟩ := b
  injection h with h1 h2
  injection h2 with h2 _
  injection h1 with h1
  injection h2 with h2
  exact Prod.ext h1 h2
theorem valV_keys {β : Type} (f : β → V) : ∀ (acc : List (Wo × β)) (w : Wo), (valV (acc.map fun p => (wk p.1, f p.2)) (wk w)).isSome = decide (w ∈ acc.map (·.1))
  | [], _ => rfl
  | p :: r, w => by
    by_cases e : p.1 = w
    · rw [List.map_cons, valV_pos (by rw [e])]
      rw [Bool.eq_iff_iff]
      simp [e]
    · rw [List.map_cons, valV_neg (fun q => e (wk_inj q)), valV_keys f r w]
      rw [Bool.eq_iff_iff]
      simp only [decide_eq_true_eq, List.map_cons, List.mem_cons]
      exact ⟨fun h => .inr h, fun h => h.resolve_left fun q => e q.symm⟩
/-- the dict whose keys are worths, each with True -/
def tdict (acc : List Wo) : List (List Key × V) := acc.map fun w => (wk w, V.bl true)
theorem tdict_val (acc : List Wo) (w : Wo) : (valV (tdict acc) (wk w)).isSome = decide (w ∈ acc) := by
  have h := valV_keys (fun _ : Unit => V.bl true) (acc.map fun w => (w, ())) w
  simp only [List.map_map, Function.comp_def, List.map_id'] at h
  exact h
theorem tdict_put (acc : List Wo) (w : Wo) : putK (tdict acc) (wk w) (.bl true) = tdict (if w ∈ acc then acc else acc ++ [w]) := by
  have e := tdict_val acc w
  by_cases h : w ∈ acc
  · rw [if_pos h]
    rw [decide_eq_true h] at e
    unfold putK
    rw [valV_any, e, if_pos rfl]
    unfold tdict
    rw [List.map_map]
    refine List.map_congr_left fun x _ => ?_
    by_cases q : wk x = wk w
    · show (if wk x = wk w then (wk x, V.bl true) else (wk x, V.bl true)) = _
      rw [if_pos q]
    · show (if wk x = wk w then (wk x, V.bl true) else (wk x, V.bl true)) = _
      rw [if_neg q]
  · rw [if_neg h]
    rw [decide_eq_false h] at e
    rw [putK_new _ (by simpa using e)]
    unfold tdict
    rw [List.map_append]
    rfl
theorem keys_wos {H : Hp} : ∀ {acc : List Wo} {bs : List Addr}, (∀ w ∈ acc, PyData.strOk w.1 = true) → IsKeys H (tdict acc) bs → Wos H (bs.map V.ref) acc
  | [], _, _, h => by
    cases h
    exact .nil
  | w :: r, _, k, h => by
    cases h with
    | cons a b => exact .cons ⟨_, rfl, a, k w List.mem_cons_self⟩ (keys_wos (fun x m => k x (List.mem_cons_of_mem _ m)) b)
theorem tdict_len (acc : List Wo) : (tdict acc).length = acc.length := by
  unfold tdict
  rw [List.length_map]
theorem things_in : ∀ (l acc : List Wo), (∀ w ∈ l, isT w = true → w ∈ acc) → l.foldl thStep acc = acc
  | [], _, _ => rfl
  | x :: r, acc, h => by
    have e : thStep acc x = acc := by
      by_cases t : isT x = true
      · exact thStep_old (h x List.mem_cons_self t)
      · exact thStep_no (by simpa using t)
    rw [List.foldl_cons, e]
    exact things_in r acc fun w m => h w (List.mem_cons_of_mem _ m)
theorem things_mem : ∀ (l acc : List Wo) (w : Wo), (w ∈ acc ∨ (w ∈ l ∧ isT w = true)) → w ∈ l.foldl thStep acc
  | [], acc, w, h => by
    rcases h with h | ⟨h, _⟩
    · exact h
    · cases h
  | x :: r, acc, w, h => by
    rw [List.foldl_cons]
    refine things_mem r _ w ?_
    have keep : w ∈ acc → w ∈ thStep acc x := fun m => by
      unfold thStep
      split
      · exact List.mem_append_left _ m
      · exact m
    rcases h with h | ⟨h, t⟩
    · exact .inl (keep h)
    · rcases List.mem_cons.mp h with e | h
      · subst e
        by_cases m : w ∈ acc
        · exact .inl (keep m)
        · rw [thStep_new t m]
          exact .inl (List.mem_append_right _ (List.mem_singleton.mpr rfl))
      · exact .inr ⟨h, t⟩
theorem things_twice (l : List Wo) : thingsOf (l ++ l) = thingsOf l := by
  unfold thingsOf
  rw [List.foldl_append]
  exact things_in l _ fun w m t => things_mem l [] w (.inr ⟨m, t⟩)
theorem things_nodup (ws : List Wo) : (thingsOf ws).Nodup := by
  have : ∀ (l acc : List Wo), acc.Nodup → (l.foldl thStep acc).Nodup := by
    intro l
    induction l with
    | nil => intro acc h; exact h
    | cons x r ih =>
      intro acc h
      rw [List.foldl_cons]
      refine ih _ ?_
      unfold thStep
      split
      · rename_i c
        simp only [Bool.and_eq_true, Bool.not_eq_true', decide_eq_false_iff_not] at c
        rw [List.nodup_append]
        exact ⟨h, by simp, fun a ha b hb e => c.2 (by rw [List.mem_singleton] at hb; subst hb; subst e; exact ha)⟩
      · exact h
  exact this ws [] .nil
theorem mem_thingsOf {ws : List Wo} {w : Wo} : w ∈ thingsOf ws ↔ w ∈ ws ∧ isT w = true := ⟨mem_things, fun h => things_mem ws [] w (.inr h)⟩
end G

namespace G
open PySem L2
/-! ### papers of pieces, as they stand in the heap -/
/-- the heap without the addresses ns: what stands there may change -/
def del (ns : List Addr) (H : Hp) : Hp := fun a => if a ∈ ns then none else H a
section
variable {ns : List Addr} {H H' : Hp} {a p : Addr} {o : HO}
theorem del_at (h : H a = some o) (n : a ∉ ns) : del ns H a = some o := by
  unfold del
  rw [if_neg n]
  exact h
theorem of_del (h : del ns H a = some o) : H a = some o ∧ a ∉ ns := by
  unfold del at h
  by_cases m : a ∈ ns
  · rw [if_pos m] at h
    cases h
  · rw [if_neg m] at h
    exact ⟨h, m⟩
theorem del_sub : Same (del ns H) H := fun b u e => (of_del e).1
theorem del_keep (h : ∀ b u, H b = some u → b ∉ ns → H' b = some u) : Same (del ns H) (del ns H') := fun b u e => by
  obtain ⟨h1, h2⟩ := of_del e
  exact del_at (h b u h1 h2) h2
theorem del_same (h : Same H H') : Same (del ns H) (del ns H') := del_keep fun b u e _ => h b u e
theorem del_but (h : But p H H') (m : p ∈ ns) : Same (del ns H) (del ns H') := del_keep fun b u e n => h b u e fun q => n (q ▸ m)
theorem del_upd (m : p ∈ ns) : Same (del ns H) (del ns (upd H p o)) := del_but But.upd m
/-- a new object whose address is to be left out from now on -/
theorem del_more (h : H a = none) : Same (del ns H) (del (a :: ns) H) := fun b u e => by
  obtain ⟨h1, h2⟩ := of_del e
  exact del_at h1 fun m => by
    rcases List.mem_cons.mp m with q | q
    · subst q
      rw [h] at h1
      cases h1
    · exact h2 q
theorem del_less : Same (del (a :: ns) H) (del ns H) := fun b u e => by
  obtain ⟨h1, h2⟩ := of_del e
  exact del_at h1 fun m => h2 (List.mem_cons_of_mem _ m)
end
/-- a list of lists of worths -/
def PileV (H : Hp) (v : V) (ws : List Wo) : Prop := ∃ l, v = .ref l ∧ PileAt H l ws
theorem vint {a b : Int} : (V.int a = V.int b) ↔ a = b := ⟨fun h => V.int.inj h, fun h => by rw [h]⟩
theorem dint {a b : Int} : decide (V.int a = V.int b) = decide (a = b) := decide_eq_decide.mpr vint
abbrev Pc := Int × List Wo
/-- a piece: a tuple of what it lies on and its worths -/
def PcAt (H : Hp) (v : V) (pc : Pc) : Prop := ∃ t l, v = .ref t ∧ H t = some (.tup [.int pc.1, .ref l]) ∧ PileAt H l pc.2
def PcsAt (H : Hp) (a : Addr) (pcs : List Pc) : Prop := ∃ xs, H a = some (.lst xs) ∧ Paired (PcAt H) xs pcs
def PilesAt (H : Hp) (a : Addr) (ps : List (List Wo)) : Prop := ∃ xs, H a = some (.lst xs) ∧ Paired (PileV H) xs ps
def IntsAt (H : Hp) (a : Addr) (ns : List Int) : Prop := H a = some (.lst (ns.map V.int))
def PaperAt (H : Hp) (v : V) (pcs : List Pc) (tops : List Int) : Prop := ∃ t a b, v = .ref t ∧ H t = some (.tup [.ref a, .ref b]) ∧ PcsAt H a pcs ∧ IntsAt H b tops
section
variable {H H' : Hp} {v : V} {a : Addr}
theorem PileV.same {ws : List Wo} (s : Same H H') (h : PileV H v ws) : PileV H' v ws := by
  obtain ⟨l, e, h⟩ := h
  exact ⟨l, e, h.same s⟩
theorem PcAt.same {pc : Pc} (s : Same H H') (h : PcAt H v pc) : PcAt H' v pc := by
  obtain ⟨t, l, e, h1, h2⟩ := h
  exact ⟨t, l, e, s _ _ h1, h2.same s⟩
theorem PcsAt.same {pcs : List Pc} (s : Same H H') (h : PcsAt H a pcs) : PcsAt H' a pcs := by
  obtain ⟨xs, e, h⟩ := h
  exact ⟨xs, s _ _ e, Paired.mapP h fun _ _ => PcAt.same s⟩
theorem PilesAt.same {pcs : List (List Wo)} (s : Same H H') (h : PilesAt H a pcs) : PilesAt H' a pcs := by
  obtain ⟨xs, e, h⟩ := h
  exact ⟨xs, s _ _ e, Paired.mapP h fun _ _ => PileV.same s⟩
theorem IntsAt.same {ns : List Int} (s : Same H H') (h : IntsAt H a ns) : IntsAt H' a ns := s _ _ h
theorem PaperAt.same {pcs : List Pc} {tops : List Int} (s : Same H H') (h : PaperAt H v pcs tops) : PaperAt H' v pcs tops := by
  obtain ⟨t, a, b, e, h1, h2, h3⟩ := h
  exact ⟨t, a, b, e, s _ _ h1, h2.same s, h3.same s⟩
end
theorem paired_len {α β : Type} {F : α → β → Prop} {xs : List α} {ys : List β} (h : Paired F xs ys) : xs.length = ys.length := by
  induction h with
  | nil => rfl
  | cons _ _ ih => rw [List.length_cons, List.length_cons, ih]
theorem paired_app {α β : Type} {F : α → β → Prop} {xs zs : List α} {ys us : List β} (h : Paired F xs ys) (g : Paired F zs us) : Paired F (xs ++ zs) (ys ++ us) := by
  induction h with
  | nil => exact g
  | cons a _ ih => exact .cons a ih
theorem paired_get {α β : Type} {F : α → β → Prop} : ∀ {xs : List α} {ys : List β} {i : Nat} {v : α}, Paired F xs ys → xs[i]? = some v → ∃ w, ys[i]? = some w ∧ F v w
  | _, _, _, _, .nil, e => by cases e
  | _, _, 0, _, .cons a _, e => ⟨_, rfl, by rw [← Option.some.inj e]; exact a⟩
  | _, _, i + 1, _, .cons _ b, e => paired_get (i := i) b e
theorem paired_at {α β : Type} {F : α → β → Prop} : ∀ {xs : List α} {ys : List β} {i : Nat} {w : β}, Paired F xs ys → ys[i]? = some w → ∃ v, xs[i]? = some v ∧ F v w
  | _, _, _, _, .nil, e => by cases e
  | _, _, 0, _, .cons a _, e => ⟨_, rfl, by rw [← Option.some.inj e]; exact a⟩
  | _, _, i + 1, _, .cons _ b, e => paired_at (i := i) b e
/-- the pile of the piece u, by the piles up to each piece -/
def pileAt (piles : List (List Wo)) (u : Int) : List Wo := if 0 ≤ u then piles.getD u.toNat [] else []
/-- what the law draws: pieces that lie on earlier ones, the piles up to each, tops -/
structure Raw (size : Int) (most : Nat) (raw : List Pc) (piles : List (List Wo)) (tops : List Int) : Prop where
  len : raw.length ≤ most
  plen : piles.length = raw.length
  pc : ∀ (i : Nat) (x : Pc), raw[i]? = some x → -1 ≤ x.1 ∧ x.1 < i ∧ 1 ≤ x.2.length ∧ (x.2.length : Int) ≤ size
  pile : ∀ (i : Nat) (x : Pc), raw[i]? = some x → piles[i]? = some (pileAt piles x.1 ++ x.2)
  tlen : tops.length ≤ 100
  top : ∀ t ∈ tops, -1 ≤ t ∧ t < raw.length
/-- as far as the pieces go -/
structure Raw0 (size : Int) (raw : List Pc) (piles : List (List Wo)) : Prop where
  plen : piles.length = raw.length
  pc : ∀ (i : Nat) (x : Pc), raw[i]? = some x → -1 ≤ x.1 ∧ x.1 < i ∧ 1 ≤ x.2.length ∧ (x.2.length : Int) ≤ size
  pile : ∀ (i : Nat) (x : Pc), raw[i]? = some x → piles[i]? = some (pileAt piles x.1 ++ x.2)
  hi : ∀ (i : Nat) (ws : List Wo), piles[i]? = some ws → (ws.length : Int) ≤ size * (i + 1)
theorem Raw0.nil (size : Int) : Raw0 size [] [] := ⟨rfl, fun i x h => by simp at h, fun i x h => by simp at h, fun i x h => by simp at h⟩
theorem pileAt_snoc {piles : List (List Wo)} {u : Int} (ws : List Wo) (h : u < piles.length) : pileAt (piles ++ [ws]) u = pileAt piles u := by
  unfold pileAt
  by_cases h0 : 0 ≤ u
  · rw [if_pos h0, if_pos h0, List.getD_eq_getElem?_getD, List.getD_eq_getElem?_getD, List.getElem?_append_left (by omega)]
  · rw [if_neg h0, if_neg h0]
theorem Raw0.snoc {size : Int} {raw : List Pc} {piles : List (List Wo)} (h : Raw0 size raw piles) {u : Int} {ws : List Wo} (h0 : -1 ≤ u) (h1 : u < raw.length) (h2 : 1 ≤ ws.length) (h3 : (ws.length : Int) ≤ size) (hs : 0 ≤ size) :
    Raw0 size (raw ++ [(u, ws)]) (piles ++ [pileAt piles u ++ ws]) := by
  have pl := h.plen
  have at0 : ∀ {i : Nat} {x : Pc}, (raw ++ [(u, ws)])[i]? = some x → (raw[i]? = some x ∧ i < raw.length) ∨ (i = raw.length ∧ x = (u, ws)) := by
    intro i x e
    by_cases c : i < raw.length
    · rw [List.getElem?_append_left c] at e
      exact .inl ⟨e, c⟩
    · rw [List.getElem?_append_right (by omega)] at e
      have z : i - raw.length = 0 := by
        cases q : i - raw.length with
        | zero => rfl
        | succ k =>
          rw [q] at e
          simp at e
      rw [z] at e
      exact .inr ⟨by omega, (Option.some.inj e).symm⟩
  refine ⟨by rw [List.length_append, List.length_append, pl]; rfl, fun i x e => ?_, fun i x e => ?_, fun i zs e => ?_⟩
  · rcases at0 e with ⟨e, _⟩ | ⟨rfl, rfl⟩
    · exact h.pc i x e
    · exact ⟨h0, h1, h2, h3⟩
  · rcases at0 e with ⟨e, c⟩ | ⟨rfl, rfl⟩
    · have q := h.pc i x e
      rw [List.getElem?_append_left (by omega), pileAt_snoc _ (by omega)]
      exact h.pile i x e
    · rw [← pl, List.getElem?_append_right (Nat.le_refl _), Nat.sub_self, pileAt_snoc _ (by omega)]
      rfl
  · by_cases c : i < piles.length
    · rw [List.getElem?_append_left c] at e
      exact h.hi i zs e
    · rw [List.getElem?_append_right (by omega)] at e
      have z : i - piles.length = 0 := by
        cases q : i - piles.length with
        | zero => rfl
        | succ k =>
          rw [q] at e
          simp at e
      rw [z] at e
      have e := Option.some.inj e
      subst e
      rw [List.length_append]
      have ei : i = piles.length := by omega
      have key : ((pileAt piles u).length : Int) ≤ size * i := by
        unfold pileAt
        by_cases c0 : 0 ≤ u
        · rw [if_pos c0, List.getD_eq_getElem?_getD]
          have lt : u.toNat < piles.length := by omega
          rw [List.getElem?_eq_getElem lt]
          have q := h.hi u.toNat _ (List.getElem?_eq_getElem lt)
          refine Int.le_trans q ?_
          exact Int.mul_le_mul_of_nonneg_left (by omega) hs
        · rw [if_neg c0]
          have := Int.mul_nonneg hs (show (0 : Int) ≤ i by omega)
          simpa using this
      have e3 : size * ((i : Int) + 1) = size * i + size := by rw [Int.mul_add, Int.mul_one]
      rw [e3]
      omega
theorem wos_del {ns : List Addr} {H : Hp} {xs : List V} {ws : List Wo} (h : Wos H xs ws) (k : ∀ a ∈ ns, ∃ ys, H a = some (.lst ys)) : Wos (del ns H) xs ws :=
  Paired.mapP h fun v w ⟨a, e, q, o⟩ => ⟨a, e, del_at q (fun m => by
    obtain ⟨ys, z⟩ := k a m
    rw [q] at z
    exact absurd z (by simp)), o⟩
theorem BagAt.lst {H : Hp} {p : Addr} {n : Nat} (h : BagAt H p n) : ∃ ys, H p = some (.lst ys) := by
  obtain ⟨a, b, c, e, _⟩ := h
  exact ⟨_, e⟩
end G

namespace G
open PySem L2
/-! ### data that can be laid, no deeper than n -/
def Ok (n : Nat) (d : PyData) : Prop := PyData.canLay0 d = true ∧ d.depth ≤ n
theorem Ok.int {n : Nat} (i : Int) : Ok n (.int i) := ⟨rfl, by simp [PyData.depth]⟩
theorem Ok.str {n : Nat} {s : Str} (h : PyData.strOk s = true) : Ok n (.str s) := ⟨by simp [PyData.canLay0, h], by simp [PyData.depth]⟩
def OkAll (n : Nat) (ds : List PyData) : Prop := PyData.canLayAll0 ds = true ∧ PyData.depthAll ds ≤ n
theorem OkAll.nil {n : Nat} : OkAll n [] := ⟨by simp [PyData.canLayAll0], by simp [PyData.depthAll]⟩
theorem OkAll.cons {n : Nat} {d : PyData} {ds : List PyData} (h : Ok n d) (g : OkAll n ds) : OkAll n (d :: ds) := ⟨by simp [PyData.canLayAll0, h.1, g.1], by
  have := h.2
  have := g.2
  simp only [PyData.depthAll]
  omega⟩
theorem OkAll.map {α : Type} {n : Nat} {f : α → PyData} : ∀ {l : List α}, (∀ x ∈ l, Ok n (f x)) → OkAll n (l.map f)
  | [], _ => .nil
  | _ :: _, h => .cons (h _ List.mem_cons_self) (OkAll.map fun y m => h y (List.mem_cons_of_mem _ m))
theorem Ok.list {n : Nat} {ds : List PyData} (h : OkAll n ds) : Ok (n + 1) (.list ds) := ⟨by simp [PyData.canLay0, h.1], by
  have := h.2
  simp only [PyData.depth]
  omega⟩
theorem Ok.tuple {n : Nat} {ds : List PyData} (h : OkAll n ds) : Ok (n + 1) (.tuple ds) := ⟨by simp [PyData.canLay0, h.1], by
  have := h.2
  simp only [PyData.depth]
  omega⟩
theorem Ok.shaped {n : Nat} {d : PyData} (h : Ok n d) (l : n ≤ 64) : SeqAt.shaped d = true := by
  unfold SeqAt.shaped
  rw [h.1, Bool.true_and]
  exact decide_eq_true (Nat.le_trans h.2 l)
theorem Ok.refl {n : Nat} {d : PyData} (h : Ok n d) : PyData.eqv d d = true := PySem.SeqAt.eqv_refl d h.1
theorem ok_wd {w : Wo} (h : PyData.strOk w.1 = true) : Ok 1 (wd w) := .tuple (.cons (.str h) (.cons (.int _) .nil))
/-- two readings of the same data -/
theorem r_neSelf {K : PySem.W.Frag} {H : Hp} {Q : VK} {x y : V} {d : PyData} {n : Nat} (h1 : Dp K H x d) (h2 : Dp K H y d) (o : Ok n d) (l : n ≤ 64) (q : Q (.bl false) H) : rNeD K x y H Q :=
  ⟨d, d, h1, h2, o.shaped l, o.shaped l, by rw [o.refl]; exact q⟩
theorem r_eqSelf {K : PySem.W.Frag} {H : Hp} {Q : VK} {x y : V} {d : PyData} {n : Nat} (h1 : Dp K H x d) (h2 : Dp K H y d) (o : Ok n d) (l : n ≤ 64) (q : Q (.bl true) H) : rEqD K x y H Q :=
  ⟨d, d, h1, h2, o.shaped l, o.shaped l, by rw [o.refl]; exact q⟩
end G

namespace G
open PySem L2
/-! ### wells: three whole numbers; the second one below 10 ^ 42, the third one counts -/
def WellAt (H : Hp) (p : Addr) (n : Nat) : Prop := ∃ a b c : Int, H p = some (.lst [.int a, .int b, .int c]) ∧ 0 ≤ a ∧ 0 ≤ b ∧ b < 1000000000000000000000000000000000000000000 ∧ 0 ≤ c ∧ c ≤ n
theorem WellAt.mono {H : Hp} {p : Addr} {n m : Nat} (h : WellAt H p n) (l : n ≤ m) : WellAt H p m := by
  obtain ⟨a, b, c, e, h0, h1, h2, h3, h4⟩ := h
  exact ⟨a, b, c, e, h0, h1, h2, h3, by omega⟩
theorem WellAt.lst {H : Hp} {p : Addr} {n : Nat} (h : WellAt H p n) : ∃ ys, H p = some (.lst ys) := by
  obtain ⟨a, b, c, e, _⟩ := h
  exact ⟨_, e⟩
theorem WellAt.there {H : Hp} {p : Addr} {n : Nat} (h : WellAt H p n) : H p ≠ none := by
  obtain ⟨a, b, c, e, _⟩ := h
  rw [e]
  simp
theorem WellAt.same {H H' : Hp} {p : Addr} {n : Nat} (h : WellAt H p n) (s : Same H H') : WellAt H' p n := by
  obtain ⟨a, b, c, e, r⟩ := h
  exact ⟨a, b, c, s _ _ e, r⟩
end G

namespace G
open PySem L2 TL
/-! ### worths as texts -/
theorem dstr {a b : Str} : decide (V.str a = V.str b) = decide (a = b) := decide_eq_decide.mpr ⟨fun h => V.str.inj h, fun h => by rw [h]⟩
def markOf (s : Str) : Str := if s = "at" then "@" else if s = "box" then "b" else if s = "go" then "g" else ""
def numT (n : Int) : List Nat := if n < 0 then 45 :: numL n.natAbs else numL n.natAbs
def wt (w : Wo) : Str := markOf w.1 ++ Str.ofString (toString w.2)
theorem tl_int (n : Int) : tl (Str.ofString (toString n)) = numT n := by
  unfold numT
  by_cases h : n < 0
  · rw [if_pos h, PyProof.Rows.toString_neg h, tl_ofString, String.toList_append, List.map_append]
    have e : (0 : Int) - n = ((n.natAbs : Nat) : Int) := by omega
    rw [e, ← tl_ofString (toString ((n.natAbs : Nat) : Int)), tl_num]
    rfl
  · rw [if_neg h]
    have e : n = ((n.natAbs : Nat) : Int) := by omega
    rw [e, tl_num, Int.natAbs_natCast]
/-- what the laws hand to be written -/
def Word (s : Str) : Prop := s = "num" ∨ s = "at" ∨ s = "box" ∨ s = "go"
structure Good (w : Wo) : Prop where
  word : Word w.1
  low : w.1 = "num" ∨ 0 ≤ w.2
  lo : -(10 ^ 60) < w.2
  hi : w.2 < 10 ^ 60
theorem numL_60 {n : Int} (h1 : -(10 ^ 60) < n) (h2 : n < 10 ^ 60) : (numL n.natAbs).length ≤ 60 := by
  refine numL_len (by decide) ?_
  have e : ((10 : Nat) ^ 60 : Nat) = 1000000000000000000000000000000000000000000000000000000000000 := by decide
  have f : ((10 : Int) ^ 60 : Int) = 1000000000000000000000000000000000000000000000000000000000000 := by decide
  rw [e]
  rw [f] at h1 h2
  omega
theorem log_60 {n : Int} (h1 : -(10 ^ 60) < n) (h2 : n < 10 ^ 60) : n.natAbs.log2 < 1920 := by
  have f : ((10 : Int) ^ 60 : Int) = 1000000000000000000000000000000000000000000000000000000000000 := by decide
  rw [f] at h1 h2
  have : n.natAbs < 2 ^ 200 := by
    have g : (2 : Nat) ^ 200 = 1606938044258990275541962092341162602522202993782792835301376 := by decide
    rw [g]
    omega
  by_cases z : n.natAbs = 0
  · rw [z]
    decide
  · exact Nat.lt_of_lt_of_le ((Nat.log2_lt z).mpr this) (by decide)
theorem mark_len (s : Str) : (markOf s).length ≤ 1 := by
  unfold markOf
  split
  · decide
  split
  · decide
  split
  · decide
  · decide
theorem len_app' (a b : Str) : (a ++ b).length = a.length + b.length := by
  rw [len_tl, len_tl, len_tl, tl_append, List.length_append]
theorem num_len {n : Int} (h1 : -(10 ^ 60) < n) (h2 : n < 10 ^ 60) : (Str.ofString (toString n)).length ≤ 61 := by
  have := numL_60 h1 h2
  rw [len_tl, tl_int]
  unfold numT
  split
  · rw [List.length_cons]
    omega
  · omega
theorem wt_len {w : Wo} (g : Good w) : (wt w).length ≤ 62 := by
  have := num_len g.lo g.hi
  have := mark_len w.1
  unfold wt
  rw [len_app']
  omega
theorem word_cases {s : Str} (h : Word s) (h2 : s ≠ "num") : s = "at" ∨ s = "box" ∨ s = "go" := h.resolve_left h2
theorem marks_find {s : Str} (h : Word s) : (marks.find? (fun p => decide (p.1 = s))).map (·.2) = some (markOf s) := by
  rcases h with rfl | rfl | rfl | rfl <;> decide +kernel
theorem tl_wt (w : Wo) : tl (wt w) = tl (markOf w.1) ++ numT w.2 := by
  unfold wt
  rw [tl_append, tl_int]
theorem tl_cut1 {z : Str} (h : 1 ≤ z.length) : tl (cutS z (some 1) none) = (tl z).drop 1 := by
  show (((tl z).drop (HT.sIx z.length 0 (some ((1 : Nat) : Int)))).take (HT.sIx z.length z.length none - HT.sIx z.length 0 (some ((1 : Nat) : Int)))) = _
  rw [HT.sIx_nat, HT.sIx_none, Nat.min_eq_left h]
  exact List.take_of_length_le (by rw [List.length_drop, ← len_tl]; exact Nat.le_refl _)
theorem numL_head : ∀ (n c : Nat) (r : List Nat), numL n = c :: r → c = 48 → r = [] := by
  intro n
  induction n using Nat.strongRecOn with
  | _ n ih =>
    intro c r h e
    by_cases h10 : n < 10
    · rw [numL_lt h10] at h
      exact (List.cons.inj h).2.symm
    · rw [numL_step (by omega)] at h
      have ne := numL_ne (n / 10)
      cases hq : numL (n / 10) with
      | nil => exact absurd hq ne
      | cons c2 r2 =>
        rw [hq] at h
        have e2 : c2 = c := (List.cons.inj h).1
        have r0 := ih (n / 10) (by omega) c2 r2 hq (by rw [e2, e])
        rw [r0] at hq
        have v := numL_val (n / 10)
        rw [hq, e2, e] at v
        have : n / 10 = 0 := by
          rw [← v]
          rfl
        omega
theorem numL_cons (n : Nat) : ∃ c r, numL n = c :: r ∧ 48 ≤ c ∧ c ≤ 57 := by
  cases h : numL n with
  | nil => exact absurd h (numL_ne n)
  | cons c r =>
    have d := numL_digits n c (by rw [h]; exact List.mem_cons_self)
    exact ⟨c, r, rfl, d.1, d.2⟩
theorem figure {c : Nat} (h1 : 48 ≤ c) (h2 : c ≤ 57) : c ∈ (Str.ofString "0123456789").cps.toList := by
  have : (Str.ofString "0123456789").cps.toList = [48, 49, 50, 51, 52, 53, 54, 55, 56, 57] := by decide +kernel
  rw [this]
  have : c = 48 ∨ c = 49 ∨ c = 50 ∨ c = 51 ∨ c = 52 ∨ c = 53 ∨ c = 54 ∨ c = 55 ∨ c = 56 ∨ c = 57 := by omega
  rcases this with rfl | rfl | rfl | rfl | rfl | rfl | rfl | rfl | rfl | rfl <;> decide
theorem sign_eq {c : Nat} {s : String} {d : Nat} (h : (Str.ofString s).cps = #[d]) : ((⟨#[c]⟩ : Str) = Str.ofString s) ↔ c = d := by
  constructor
  · intro e
    have := congrArg Str.cps e
    rw [h] at this
    have e2 : [c] = [d] := congrArg Array.toList this
    exact (List.cons.inj e2).1
  · intro e
    subst e
    exact Str.ext' h.symm
def marked : List (Str × Str) := [("@", "at"), ("b", "box"), ("g", "go")]
/-- the first sign tells the word -/
theorem marked_digit {c : Nat} (h : c ≠ 64 ∧ c ≠ 98 ∧ c ≠ 103) : marked.find? (fun p => decide (p.1 = (⟨#[c]⟩ : Str))) = none := by
  have b : ∀ (s : String) (d : Nat), (Str.ofString s).cps = #[d] → c ≠ d → decide (Str.ofString s = (⟨#[c]⟩ : Str)) = false := fun s d e n => decide_eq_false fun q => n ((sign_eq e).mp q.symm)
  unfold marked
  simp only [List.find?_cons, b "@" 64 (by decide +kernel) h.1, b "b" 98 (by decide +kernel) h.2.1, b "g" 103 (by decide +kernel) h.2.2, List.find?_nil]
theorem tl_nil {z : Str} : tl z = [] ↔ z = "" := by
  constructor
  · intro h
    exact ext_tl (by rw [h]; decide +kernel)
  · intro h
    subst h
    decide +kernel
theorem atI0 {α : Type} (c : α) (r : List α) : atI (c :: r) 0 = some c := by
  simp [atI, ixN]
/-- how a worth's text begins -/
inductive Begins : Wo → Prop
  | digit {w : Wo} {c : Nat} {r : List Nat} (h : w.1 = "num") (n : 0 ≤ w.2) (e : tl (wt w) = numL w.2.natAbs) (e2 : numL w.2.natAbs = c :: r) (c0 : 48 ≤ c) (c1 : c ≤ 57) : Begins w
  | minus {w : Wo} (h : w.1 = "num") (n : w.2 < 0) (e : tl (wt w) = 45 :: numL w.2.natAbs) : Begins w
  | marked {w : Wo} {c : Nat} (n : 0 ≤ w.2) (e : tl (wt w) = c :: numL w.2.natAbs) (m : marked.find? (fun p => decide (p.1 = (⟨#[c]⟩ : Str))) = some (⟨#[c]⟩, w.1)) : Begins w
theorem begins {w : Wo} (g : Good w) : Begins w := by
  have e := tl_wt w
  unfold numT at e
  rcases g.word with h | h
  · rw [h] at e
    by_cases n : w.2 < 0
    · rw [if_pos n] at e
      exact .minus h n e
    · rw [if_neg n] at e
      obtain ⟨c, r, en, c0, c1⟩ := numL_cons w.2.natAbs
      exact .digit h (by omega) e en c0 c1
  · have n : 0 ≤ w.2 := by
      rcases g.low with q | q
      · rw [q] at h
        rcases h with h | h | h <;> exact absurd h (by decide +kernel)
      · exact q
    rw [if_neg (by omega)] at e
    rcases h with h | h | h
    · rw [h] at e
      exact .marked (c := 64) n e (by rw [h]; decide +kernel)
    · rw [h] at e
      exact .marked (c := 98) n e (by rw [h]; decide +kernel)
    · rw [h] at e
      exact .marked (c := 103) n e (by rw [h]; decide +kernel)
theorem begins_not {w : Wo} (b : Begins w) : wt w ≠ "" ∧ wt w ≠ "-0" := by
  have m0 : tl (Str.ofString "-0") = [45, 48] := by decide +kernel
  cases b with
  | @digit c r h n e e2 c0 c1 =>
    refine ⟨fun z => ?_, fun z => ?_⟩
    · have := tl_nil.mpr z
      rw [e, e2] at this
      cases this
    · rw [z, m0, e2] at e
      have := (List.cons.inj e).1
      omega
  | minus h n e =>
    refine ⟨fun z => ?_, fun z => ?_⟩
    · have := tl_nil.mpr z
      rw [e] at this
      cases this
    · rw [z, m0] at e
      have e3 := (List.cons.inj e).2
      have v := numL_val w.2.natAbs
      rw [← e3] at v
      have : w.2.natAbs = 0 := by
        rw [← v]
        rfl
      omega
  | @marked c n e m =>
    refine ⟨fun z => ?_, fun z => ?_⟩
    · have := tl_nil.mpr z
      rw [e] at this
      cases this
    · rw [z, m0] at e
      have e3 := (List.cons.inj e).1
      rw [← e3, marked_digit (by decide)] at m
      cases m
/-! piles as texts -/
def pileText (ws : List Wo) : Str := if ws = [] then "none" else Txt.join " " (ws.map wt)
theorem tl_blank : tl (Str.ofString " ") = [32] := by decide +kernel
theorem tl_pile {ws : List Wo} (h : ws ≠ []) : tl (pileText ws) = joinL [32] (ws.map fun w => tl (wt w)) := by
  unfold pileText
  rw [if_neg h, join_eq, tl_join, tl_blank, List.map_map]
  rfl
theorem signs_wt {w : Wo} (g : Good w) : (∃ c r, tl (wt w) = c :: r ∧ c ≠ 110) ∧ 32 ∉ tl (wt w) := by
  have f := fun n => numL_free (n := n) (s := 32) (.inl (by decide))
  cases begins g with
  | @digit c r h n e e2 c0 c1 =>
    rw [e]
    exact ⟨⟨c, r, e2, by omega⟩, f _⟩
  | minus h n e =>
    rw [e]
    refine ⟨⟨45, _, rfl, by decide⟩, fun m => ?_⟩
    rcases List.mem_cons.mp m with m | m
    · cases m
    · exact f _ m
  | @marked c n e m =>
    have nc : c = 64 ∨ c = 98 ∨ c = 103 := by
      by_cases q : c ≠ 64 ∧ c ≠ 98 ∧ c ≠ 103
      · rw [marked_digit q] at m
        cases m
      · omega
    rw [e]
    refine ⟨⟨c, _, rfl, by omega⟩, fun m => ?_⟩
    rcases List.mem_cons.mp m with m | m
    · omega
    · exact f _ m
theorem joinL_len {k : Nat} : ∀ {ps : List (List Nat)}, (∀ p ∈ ps, p.length ≤ k) → (joinL [32] ps).length ≤ (k + 1) * ps.length
  | [], _ => Nat.zero_le _
  | [p], h => by
    have := h p List.mem_cons_self
    show p.length ≤ _
    simp
    omega
  | p :: q :: r, h => by
    have h1 := h p List.mem_cons_self
    have h2 := joinL_len (ps := q :: r) fun x m => h x (List.mem_cons_of_mem _ m)
    show (p ++ ([32] ++ joinL [32] (q :: r))).length ≤ (k + 1) * (q :: r).length.succ
    rw [List.length_append, List.length_append, Nat.mul_succ]
    simp only [List.length_singleton]
    omega
theorem pile_text_len {ws : List Wo} (g : ∀ w ∈ ws, Good w) (l : ws.length ≤ 1000) : (pileText ws).length ≤ 63000 := by
  by_cases h : ws = []
  · unfold pileText
    rw [if_pos h]
    decide
  · rw [len_tl, tl_pile h]
    have := joinL_len (k := 62) (ps := ws.map fun w => tl (wt w)) fun p m => by
      obtain ⟨w, mw, rfl⟩ := List.mem_map.mp m
      have := wt_len (g w mw)
      rw [len_tl] at this
      exact this
    rw [List.length_map] at this
    omega
theorem pile_not_none {ws : List Wo} (g : ∀ w ∈ ws, Good w) (h : ws ≠ []) : pileText ws ≠ "none" := by
  intro e
  have := tl_pile h
  rw [e] at this
  cases ws with
  | nil => exact h rfl
  | cons w r =>
    obtain ⟨⟨c, q, e2, nc⟩, -⟩ := signs_wt (g w List.mem_cons_self)
    have e3 : tl (Str.ofString "none") = [110, 111, 110, 101] := by decide +kernel
    rw [e3] at this
    cases r with
    | nil =>
      have : [110, 111, 110, 101] = tl (wt w) := this
      rw [e2] at this
      exact nc (List.cons.inj this).1.symm
    | cons w2 r =>
      have : [110, 111, 110, 101] = tl (wt w) ++ ([32] ++ joinL [32] ((w2 :: r).map fun w => tl (wt w))) := this
      rw [e2] at this
      exact nc (List.cons.inj this).1.symm
theorem pile_split {ws : List Wo} (g : ∀ w ∈ ws, Good w) (h : ws ≠ []) : Txt.split (pileText ws) " " = ws.map wt := by
  unfold pileText
  rw [if_neg h]
  refine split_join (y := Str.ofString " ") (s := 32) (S := []) tl_blank (by decide +kernel) (by simpa using h) fun p m => ?_
  obtain ⟨w, mw, rfl⟩ := List.mem_map.mp m
  exact (signs_wt (g w mw)).2
/-- the law's own way: a blank ahead of each -/
def glue (ws : List Wo) : List Nat := (ws.map fun w => 32 :: tl (wt w)).flatten
theorem glue_drop : ∀ {ws : List Wo}, ws ≠ [] → (glue ws).drop 1 = joinL [32] (ws.map fun w => tl (wt w))
  | [], h => absurd rfl h
  | [w], _ => by simp [glue, joinL]
  | w :: v :: r, _ => by
    have ih := glue_drop (ws := v :: r) (by simp)
    have e : glue (w :: v :: r) = 32 :: (tl (wt w) ++ glue (v :: r)) := rfl
    have e2 : glue (v :: r) = 32 :: (glue (v :: r)).drop 1 := rfl
    rw [e, e2, ih]
    rfl
theorem glue_snoc (ws : List Wo) (w : Wo) : glue (ws ++ [w]) = glue ws ++ 32 :: tl (wt w) := by
  unfold glue
  rw [List.map_append, List.flatten_append]
  simp
theorem glue_len {ws : List Wo} (g : ∀ w ∈ ws, Good w) : (glue ws).length ≤ 63 * ws.length := by
  induction ws with
  | nil => exact Nat.zero_le _
  | cons w r ih =>
    have h1 := wt_len (g w List.mem_cons_self)
    rw [len_tl] at h1
    have h2 := ih fun x m => g x (List.mem_cons_of_mem _ m)
    have e : glue (w :: r) = 32 :: (tl (wt w) ++ glue r) := rfl
    rw [e]
    simp only [List.length_cons, List.length_append]
    omega
end G

namespace G
open PySem L2
/-! ### data by Lean's types -/
class Dat (α : Type) where
  At : Hp → V → α → Prop
  enc : α → PyData
  dep : Nat
  same : ∀ {H H' : Hp} {v : V} {a : α}, Same H H' → At H v a → At H' v a
  dp : ∀ {K : PySem.W.Frag} {H : Hp} {v : V} {a : α}, At H v a → Dp K H v (enc a)
  lay : ∀ {H : Hp} {v : V} {a : α}, At H v a → Ok dep (enc a)
  inj : ∀ {H H' : Hp} {v u : V} {a b : α}, At H v a → At H' u b → PyData.eqv (enc a) (enc b) = true → a = b
open Dat (At enc)
instance : Dat Int where
  At := fun _ v a => v = .int a
  enc := .int
  dep := 0
  same := fun _ h => h
  dp := fun h => h ▸ .int _
  lay := fun _ => .int _
  inj := fun _ _ e => by simpa [PyData.eqv] using e
instance : Dat Str where
  At := fun _ v a => v = .str a ∧ PyData.strOk a = true
  enc := .str
  dep := 0
  same := fun _ h => h
  dp := fun h => h.1 ▸ .str _
  lay := fun h => .str h.2
  inj := fun _ _ e => by simpa [PyData.eqv] using e
instance {α β : Type} [Dat α] [Dat β] : Dat (α × β) where
  At := fun H v p => ∃ t x y, v = .ref t ∧ H t = some (.tup [x, y]) ∧ At H x p.1 ∧ At H y p.2
  enc := fun p => .tuple [enc p.1, enc p.2]
  dep := max (Dat.dep α) (Dat.dep β) + 1
  same := fun s ⟨t, x, y, e, h, a, b⟩ => ⟨t, x, y, e, s _ _ h, Dat.same s a, Dat.same s b⟩
  dp := fun ⟨t, x, y, e, h, a, b⟩ => e ▸ .tup (.inl (.inl h)) (.cons (Dat.dp a) (.cons (Dat.dp b) .nil))
  lay := fun ⟨t, x, y, e, h, a, b⟩ => .tuple (.cons ⟨(Dat.lay a).1, Nat.le_trans (Dat.lay a).2 (Nat.le_max_left _ _)⟩ (.cons ⟨(Dat.lay b).1, Nat.le_trans (Dat.lay b).2 (Nat.le_max_right _ _)⟩ .nil))
  inj := fun ⟨t, x, y, e, h, a, b⟩ ⟨t', x', y', e', h', a', b'⟩ q => by
    simp [PyData.eqv, PyData.eqvAll] at q
    exact Prod.ext (Dat.inj a a' q.1) (Dat.inj b b' q.2)
structure T3 (α β γ : Type) where
  a : α
  b : β
  c : γ
  deriving DecidableEq
structure T4 (α β γ δ : Type) where
  a : α
  b : β
  c : γ
  d : δ
  deriving DecidableEq
instance {α β γ : Type} [Dat α] [Dat β] [Dat γ] : Dat (T3 α β γ) where
  At := fun H v p => ∃ t x y z, v = .ref t ∧ H t = some (.tup [x, y, z]) ∧ At H x p.a ∧ At H y p.b ∧ At H z p.c
  enc := fun p => .tuple [enc p.a, enc p.b, enc p.c]
  dep := max (Dat.dep α) (max (Dat.dep β) (Dat.dep γ)) + 1
  same := fun s ⟨t, x, y, z, e, h, a, b, c⟩ => ⟨t, x, y, z, e, s _ _ h, Dat.same s a, Dat.same s b, Dat.same s c⟩
  dp := fun ⟨t, x, y, z, e, h, a, b, c⟩ => e ▸ .tup (.inl (.inl h)) (.cons (Dat.dp a) (.cons (Dat.dp b) (.cons (Dat.dp c) .nil)))
  lay := fun ⟨t, x, y, z, e, h, a, b, c⟩ => by
    have h1 := (Dat.lay a).2
    have h2 := (Dat.lay b).2
    have h3 := (Dat.lay c).2
    exact .tuple (.cons ⟨(Dat.lay a).1, by omega⟩ (.cons ⟨(Dat.lay b).1, by omega⟩ (.cons ⟨(Dat.lay c).1, by omega⟩ .nil)))
  inj := fun {_ _ _ _ p p'} ⟨t, x, y, z, e, h, a, b, c⟩ ⟨t', x', y', z', e', h', a', b', c'⟩ q => by
    simp [PyData.eqv, PyData.eqvAll] at q
    obtain ⟨p1, p2, p3⟩ := p
    obtain ⟨q1, q2, q3⟩ := p'
    have e1 : p1 = q1 := Dat.inj a a' q.1
    have e2 : p2 = q2 := Dat.inj b b' q.2.1
    have e3 : p3 = q3 := Dat.inj c c' q.2.2
    rw [e1, e2, e3]
instance {α β γ δ : Type} [Dat α] [Dat β] [Dat γ] [Dat δ] : Dat (T4 α β γ δ) where
  At := fun H v p => ∃ t x y z u, v = .ref t ∧ H t = some (.tup [x, y, z, u]) ∧ At H x p.a ∧ At H y p.b ∧ At H z p.c ∧ At H u p.d
  enc := fun p => .tuple [enc p.a, enc p.b, enc p.c, enc p.d]
  dep := max (Dat.dep α) (max (Dat.dep β) (max (Dat.dep γ) (Dat.dep δ))) + 1
  same := fun s ⟨t, x, y, z, u, e, h, a, b, c, d⟩ => ⟨t, x, y, z, u, e, s _ _ h, Dat.same s a, Dat.same s b, Dat.same s c, Dat.same s d⟩
  dp := fun ⟨t, x, y, z, u, e, h, a, b, c, d⟩ => e ▸ .tup (.inl (.inl h)) (.cons (Dat.dp a) (.cons (Dat.dp b) (.cons (Dat.dp c) (.cons (Dat.dp d) .nil))))
  lay := fun ⟨t, x, y, z, u, e, h, a, b, c, d⟩ => by
    have h1 := (Dat.lay a).2
    have h2 := (Dat.lay b).2
    have h3 := (Dat.lay c).2
    have h4 := (Dat.lay d).2
    exact .tuple (.cons ⟨(Dat.lay a).1, by omega⟩ (.cons ⟨(Dat.lay b).1, by omega⟩ (.cons ⟨(Dat.lay c).1, by omega⟩ (.cons ⟨(Dat.lay d).1, by omega⟩ .nil))))
  inj := fun {_ _ _ _ p p'} ⟨t, x, y, z, u, e, h, a, b, c, d⟩ ⟨t', x', y', z', u', e', h', a', b', c', d'⟩ q => by
    simp [PyData.eqv, PyData.eqvAll] at q
    obtain ⟨p1, p2, p3, p4⟩ := p
    obtain ⟨q1, q2, q3, q4⟩ := p'
    have e1 : p1 = q1 := Dat.inj a a' q.1
    have e2 : p2 = q2 := Dat.inj b b' q.2.1
    have e3 : p3 = q3 := Dat.inj c c' q.2.2.1
    have e4 : p4 = q4 := Dat.inj d d' q.2.2.2
    rw [e1, e2, e3, e4]
theorem dec_any {p : Prop} (d1 d2 : Decidable p) : @decide p d1 = @decide p d2 := decide_eq_decide.mpr Iff.rfl
abbrev Ats {α : Type} [Dat α] (H : Hp) : List V → List α → Prop := Paired (Dat.At H)
theorem Ats.same {α : Type} [Dat α] {H H' : Hp} {xs : List V} {l : List α} (s : Same H H') (h : Ats H xs l) : Ats H' xs l := Paired.mapP h fun _ _ => Dat.same s
theorem Ats.dp {α : Type} [Dat α] {K : PySem.W.Frag} {H : Hp} : ∀ {xs : List V} {l : List α}, Ats H xs l → DpAll K H xs (l.map enc)
  | _, _, .nil => .nil
  | _, _, .cons a b => .cons (Dat.dp a) (Ats.dp b)
theorem Ats.lay {α : Type} [Dat α] {H : Hp} : ∀ {xs : List V} {l : List α}, Ats H xs l → OkAll (Dat.dep α) (l.map enc)
  | _, _, .nil => .nil
  | _, _, .cons a b => .cons (Dat.lay a) (Ats.lay b)
theorem Ats.inj {α : Type} [Dat α] {H H' : Hp} : ∀ {xs ys : List V} {l m : List α}, Ats H xs l → Ats H' ys m → PyData.eqvAll (l.map enc) (m.map enc) = true → l = m
  | _, _, _, _, .nil, .nil, _ => rfl
  | _, _, _, _, .nil, .cons _ _, h => by simp [PyData.eqvAll] at h
  | _, _, _, _, .cons _ _, .nil, h => by simp [PyData.eqvAll] at h
  | _, _, _, _, .cons a r, .cons b r', h => by
    simp [PyData.eqvAll] at h
    rw [Dat.inj a b h.1, Ats.inj r r' h.2]
theorem Ats.len {α : Type} [Dat α] {H : Hp} {xs : List V} {l : List α} (h : Ats H xs l) : xs.length = l.length := Paired.length h
theorem Ats.app {α : Type} [Dat α] {H : Hp} : ∀ {xs ys : List V} {l m : List α}, Ats H xs l → Ats H ys m → Ats H (xs ++ ys) (l ++ m)
  | _, _, _, _, .nil, h => h
  | _, _, _, _, .cons a r, h => .cons a (Ats.app r h)
theorem Ats.one {α : Type} [Dat α] {H : Hp} {x : V} {a : α} (h : At H x a) : Ats H [x] [a] := .cons h .nil
theorem Ats.rev {α : Type} [Dat α] {H : Hp} : ∀ {xs : List V} {l : List α}, Ats H xs l → Ats H xs.reverse l.reverse
  | _, _, .nil => .nil
  | _, _, .cons a r => by
    rw [List.reverse_cons, List.reverse_cons]
    exact (Ats.rev r).app (.one a)
theorem Ats.take {α : Type} [Dat α] {H : Hp} : ∀ {xs : List V} {l : List α} (n : Nat), Ats H xs l → Ats H (xs.take n) (l.take n)
  | _, _, 0, _ => .nil
  | _, _, _ + 1, .nil => .nil
  | _, _, n + 1, .cons a r => .cons a (Ats.take n r)
theorem Ats.drop {α : Type} [Dat α] {H : Hp} : ∀ {xs : List V} {l : List α} (n : Nat), Ats H xs l → Ats H (xs.drop n) (l.drop n)
  | _, _, 0, h => h
  | _, _, _ + 1, .nil => .nil
  | _, _, n + 1, .cons _ r => Ats.drop n r
theorem Ats.get {α : Type} [Dat α] {H : Hp} : ∀ {xs : List V} {l : List α} {i : Nat} {x : V}, Ats H xs l → xs[i]? = some x → ∃ a, l[i]? = some a ∧ At H x a
  | _, _, _, _, .nil, h => by cases h
  | _, _, 0, _, .cons a _, h => by
    cases h
    exact ⟨_, rfl, a⟩
  | _, _, i + 1, _, .cons _ r, h => Ats.get (i := i) r (by simpa using h)
theorem Ats.get' {α : Type} [Dat α] {H : Hp} : ∀ {xs : List V} {l : List α} {i : Nat} {a : α}, Ats H xs l → l[i]? = some a → ∃ x, xs[i]? = some x ∧ At H x a
  | _, _, _, _, .nil, h => by cases h
  | _, _, 0, _, .cons a _, h => by
    cases h
    exact ⟨_, rfl, a⟩
  | _, _, i + 1, _, .cons _ r, h => Ats.get' (i := i) r (by simpa using h)
theorem Ats.set {α : Type} [Dat α] {H : Hp} {x : V} {a : α} (h : At H x a) : ∀ {xs : List V} {l : List α} (n : Nat), Ats H xs l → Ats H (xs.set n x) (l.set n a)
  | _, _, _, .nil => .nil
  | _, _, 0, .cons _ r => .cons h r
  | _, _, n + 1, .cons b r => .cons b (Ats.set h n r)
theorem Ats.rep {α : Type} [Dat α] {H : Hp} {xs : List V} {l : List α} (h : Ats H xs l) : ∀ n : Nat, Ats H (List.replicate n xs).flatten (List.replicate n l).flatten
  | 0 => .nil
  | n + 1 => by
    rw [List.replicate_succ, List.replicate_succ, List.flatten_cons, List.flatten_cons]
    exact h.app (Ats.rep h n)
instance {α : Type} [Dat α] : Dat (List α) where
  At := fun H v l => ∃ a xs, v = .ref a ∧ H a = some (.lst xs) ∧ Ats H xs l
  enc := fun l => .list (l.map enc)
  dep := Dat.dep α + 1
  same := fun s ⟨a, xs, e, h, r⟩ => ⟨a, xs, e, s _ _ h, r.same s⟩
  dp := fun ⟨a, xs, e, h, r⟩ => e ▸ .lst (.inl (.inl h)) r.dp
  lay := fun ⟨a, xs, e, h, r⟩ => .list r.lay
  inj := fun ⟨a, xs, e, h, r⟩ ⟨a', xs', e', h', r'⟩ q => by
    simp only [PyData.eqv] at q
    exact r.inj r' q
section
variable {α β : Type} [Dat α] [Dat β] {K : PySem.W.Frag} {H H' : Hp} {x y v : V} {a b : α} {Q : VK} {ns : List Addr}
theorem Dat.eqv_eq [DecidableEq α] (h : At H x a) (h' : At H' y b) : PyData.eqv (enc a) (enc b) = decide (a = b) := by
  cases e : PyData.eqv (enc a) (enc b) with
  | true => exact (decide_eq_true (Dat.inj h h' e)).symm
  | false =>
    refine (decide_eq_false fun q => ?_).symm
    subst q
    rw [(Dat.lay h).refl] at e
    cases e
theorem r_eqA [DecidableEq α] (h : At H x a) (h' : At H y b) (q : Q (.bl (decide (a = b))) H) (l : Dat.dep α ≤ 64 := by decide) : rEqD K x y H Q :=
  ⟨_, _, Dat.dp h, Dat.dp h', (Dat.lay h).shaped l, (Dat.lay h').shaped l, by rw [Dat.eqv_eq h h']; exact q⟩
theorem r_neA [DecidableEq α] (h : At H x a) (h' : At H y b) (q : Q (.bl (!decide (a = b))) H) (l : Dat.dep α ≤ 64 := by decide) : rNeD K x y H Q :=
  ⟨_, _, Dat.dp h, Dat.dp h', (Dat.lay h).shaped l, (Dat.lay h').shaped l, by rw [Dat.eqv_eq h h']; exact q⟩
theorem any_dec {α : Type} [Dat α] [DecidableEq α] {H H' : Hp} {x : V} {a : α} (h : At H x a) : ∀ {xs : List V} {l : List α}, Ats H' xs l → ((l.map enc).any fun z => PyData.eqv z (enc a)) = decide (a ∈ l)
  | _, _, .nil => (decide_eq_false (by simp)).symm
  | _, _, .cons (a := z) (b := c) hz r => by
    rw [List.map_cons, List.any_cons, any_dec h r, Dat.eqv_eq hz h, Bool.eq_iff_iff]
    simp only [Bool.or_eq_true, decide_eq_true_eq, List.mem_cons]
    exact ⟨fun q => q.elim (fun e => .inl e.symm) .inr, fun q => q.elim (fun e => .inl e.symm) .inr⟩
theorem r_inA [DecidableEq α] {l : List α} [dc : Decidable (a ∈ l)] (h : At H x a) (h' : At H y l) (q : Q (.bl (decide (a ∈ l))) H) (k : Dat.dep α ≤ 63 := by decide) : rInD K x y H Q := by
  obtain ⟨p, xs, e, hp, r⟩ := id h'
  exact ⟨_, _, Dat.dp h, Dat.dp h', (Dat.lay h).shaped (by omega), (Dat.lay h').shaped (by show Dat.dep α + 1 ≤ 64; omega), by rw [any_dec h r, dec_any _ dc]; exact q⟩
theorem r_ninA [DecidableEq α] {l : List α} [dc : Decidable (a ∈ l)] (h : At H x a) (h' : At H y l) (q : Q (.bl (!decide (a ∈ l))) H) (k : Dat.dep α ≤ 63 := by decide) : rNotInD K x y H Q := by
  obtain ⟨p, xs, e, hp, r⟩ := id h'
  exact ⟨_, _, Dat.dp h, Dat.dp h', (Dat.lay h).shaped (by omega), (Dat.lay h').shaped (by show Dat.dep α + 1 ≤ 64; omega), by rw [any_dec h r, dec_any _ dc]; exact q⟩
end
/-! ### what may change: the addresses ns; all other data stand in the heap without them -/
def Lv (H : Hp) (a : Addr) : Prop := ∃ o, H a = some o ∧ ∀ xs, o ≠ .tup xs
def Live (ns : List Addr) (H : Hp) : Prop := ∀ a ∈ ns, Lv H a
theorem Lv.lst {H : Hp} {a : Addr} {xs : List V} (h : H a = some (.lst xs)) : Lv H a := ⟨_, h, fun _ e => by cases e⟩
/-- what stood without ns stands now without ms -/
structure Fr (ns : List Addr) (H : Hp) (ms : List Addr) (H' : Hp) : Prop where
  same : Same (del ns H) (del ms H')
  live : Live ms H'
/-- a list that may change, at p -/
def Own {α : Type} [Dat α] (ns : List Addr) (H : Hp) (p : Addr) (l : List α) : Prop := ∃ ys, H p = some (.lst ys) ∧ Ats (del ns H) ys l
section
variable {α β γ δ : Type} [Dat α] [Dat β] [Dat γ] [Dat δ] {K : PySem.W.Frag} {H H' H1 H2 : Hp} {x y v : V} {a b : α} {Q : VK} {ns ms ks : List Addr} {p q : Addr} {o : HO} {xs : List V}
theorem Live.not (l : Live ns H) (h : H p = none) : p ∉ ns := fun m => by
  obtain ⟨u, e, _⟩ := l p m
  rw [h] at e
  cases e
theorem Live.nil : Live [] H := fun _ m => by cases m
theorem Live.cons (h : Lv H p) (l : Live ns H) : Live (p :: ns) H := fun a m => (List.mem_cons.mp m).elim (fun e => e ▸ h) (l a)
theorem Live.one (h : Lv H p) : Live [p] H := .cons h .nil
theorem Live.app (h : Live ms H) (l : Live ns H) : Live (ms ++ ns) H := fun a m => (List.mem_append.mp m).elim (h a) (l a)
theorem Live.sub (l : Live ns H) (s : ∀ a ∈ ms, a ∈ ns) : Live ms H := fun a m => l a (s a m)
theorem Live.same (s : Same H H') (l : Live ns H) : Live ns H' := fun a m => by
  obtain ⟨u, e, n⟩ := l a m
  exact ⟨u, s _ _ e, n⟩
theorem Live.tup (l : Live ns H) (e : H p = some (.tup xs)) : p ∉ ns := fun m => by
  obtain ⟨u, e', n⟩ := l p m
  rw [e] at e'
  exact n xs (Option.some.inj e').symm
theorem Live.put (l : Live ns H) (n : ∀ xs, o ≠ .tup xs) : Live ns (upd H p o) := fun b hb => by
  by_cases e : b = p
  · exact ⟨o, by rw [e]; exact upd_same, n⟩
  · obtain ⟨u, h, k⟩ := l b hb
    exact ⟨u, by rw [upd_ne e]; exact h, k⟩
theorem Fr.refl (l : Live ns H) : Fr ns H ns H := ⟨Same.refl _, l⟩
theorem Fr.trans (f : Fr ns H ms H1) (g : Fr ms H1 ks H2) : Fr ns H ks H2 := ⟨f.same.trans g.same, g.live⟩
theorem Fr.of (l : Live ns H) (s : Same H H') : Fr ns H ns H' := ⟨del_same s, l.same s⟩
theorem Fr.mono (l : Live ms H) (s : ∀ a ∈ ns, a ∈ ms) (f : Fr ns H ns H') : Fr ms H ms H' := by
  refine ⟨fun b u e => ?_, fun b m => ?_⟩
  · obtain ⟨e1, n⟩ := of_del e
    have := f.same b u (del_at e1 fun m => n (s b m))
    exact del_at (of_del this).1 n
  · by_cases hb : b ∈ ns
    · exact f.live b hb
    · obtain ⟨u, e, n⟩ := l b m
      exact ⟨u, (of_del (f.same b u (del_at e hb))).1, n⟩
theorem Fr.back (f : Fr [] H [] H') : Same H H' := fun b u e => (of_del (f.same b u (del_at e (by simp)))).1
theorem Fr.keep (f : Fr ns H ms H') (h : H p = some o) (n : p ∉ ns) : H' p = some o := (of_del (f.same p o (del_at h n))).1
theorem Fr.out (f : Fr ns H ms H') (h : H p = some o) (n : p ∉ ns) : p ∉ ms := (of_del (f.same p o (del_at h n))).2
theorem Fr.at_ (f : Fr ns H ms H') (h : At (del ns H) v a) : At (del ms H') v a := Dat.same f.same h
theorem Fr.ats {l : List α} (f : Fr ns H ms H') (h : Ats (del ns H) xs l) : Ats (del ms H') xs l := h.same f.same
theorem Fr.new (l : Live ns H) (h : H p = none) : Fr ns H ns (upd H p o) := .of l (same_new h)
/-- a new thing that may change -/
theorem Fr.mkO (l : Live ns H) (h : H p = none) (n : ∀ xs, o ≠ .tup xs) : Fr ns H (p :: ns) (upd H p o) :=
  ⟨(del_more h).trans (del_upd List.mem_cons_self), Live.cons ⟨o, upd_same, n⟩ (l.same (same_new h))⟩
/-- a change of what may change -/
theorem Fr.put (l : Live ns H) (m : p ∈ ns) (n : ∀ xs, o ≠ .tup xs) : Fr ns H ns (upd H p o) := ⟨del_upd m, l.put n⟩
/-- what may change no more -/
theorem Fr.drop (l : Live (p :: ns) H) : Fr (p :: ns) H ns H := ⟨del_less, l.sub fun _ m => List.mem_cons_of_mem _ m⟩
theorem Fr.sub (l : Live ns H) (s : ∀ a ∈ ms, a ∈ ns) : Fr ns H ms H :=
  ⟨fun b u e => del_at (of_del e).1 fun m => (of_del e).2 (s b m), l.sub s⟩
/-- what is new is from now on what may change -/
theorem Fr.more (l : Live ns H) (h : H p = none) (s : Same H H') (t : Lv H' p) : Fr ns H (p :: ns) H' :=
  ⟨(del_more h).trans (del_same s), Live.cons t (l.same s)⟩
theorem Fr.free (f : Fr ns H ms H') (s : ∀ a ∈ ns, a ∈ ms) (h : H' p = none) : H p = none := by
  cases e : H p with
  | none => rfl
  | some u =>
    by_cases m : p ∈ ns
    · obtain ⟨z, q, _⟩ := f.live p (s p m)
      rw [h] at q
      cases q
    · rw [f.keep e m] at h
      cases h
theorem Fr.free' (f : Fr ns H ns H') (h : H' p = none) : H p = none := f.free (fun _ m => m) h
theorem But.fr (b : But p H H') (l : Live ns H) (m : p ∈ ns) (t : Lv H' p) : Fr ns H ns H' := by
  refine ⟨del_but b m, fun c hc => ?_⟩
  by_cases e : c = p
  · rw [e]
    exact t
  · obtain ⟨u, h, k⟩ := l c hc
    exact ⟨u, b _ _ h e, k⟩
/-! what has no lists in it stands without any ns -/
class Imm (α : Type) [Dat α] : Prop where
  out : ∀ {ns : List Addr} {H : Hp} {v : V} {a : α}, Live ns H → At H v a → At (del ns H) v a
instance : Imm Int := ⟨fun _ h => h⟩
instance : Imm Str := ⟨fun _ h => h⟩
instance [Imm α] [Imm β] : Imm (α × β) := ⟨fun l ⟨t, x, y, e, h, a, b⟩ => ⟨t, x, y, e, del_at h (l.tup h), Imm.out l a, Imm.out l b⟩⟩
theorem Ats.out [Imm α] {l : List α} (hl : Live ns H) (h : Ats H xs l) : Ats (del ns H) xs l := Paired.mapP h fun _ _ => Imm.out hl
theorem at_sub (h : At (del ns H) v a) : At H v a := Dat.same del_sub h
theorem at_wo {w : Wo} : At H v w ↔ WoAt H v w := by
  constructor
  · rintro ⟨t, x, y, e, h, ⟨rfl, o⟩, rfl⟩
    exact ⟨t, e, h, o⟩
  · rintro ⟨t, e, h, o⟩
    exact ⟨t, _, _, e, h, ⟨rfl, o⟩, rfl⟩
theorem ats_wos {ws : List Wo} : Ats H xs ws ↔ Wos H xs ws := ⟨fun h => Paired.mapP h fun _ _ => at_wo.mp, fun h => Paired.mapP h fun _ _ => at_wo.mpr⟩
/-! ### readings of data -/
theorem at_str {z : Str} (h : PyData.strOk z = true) : At H (.str z) z := ⟨rfl, h⟩
theorem at_int {n : Int} : At H (.int n) n := rfl
theorem r_t2 {ab : α × β} {ts : TGs} {σ : L2.St} {Q : L2.St → Hp → Prop} (h : At (del ns H) v ab) (q : ∀ x y, At (del ns H) x ab.1 → At (del ns H) y ab.2 → ts [x, y] σ H Q) : gTup K 2 ts v σ H Q := by
  obtain ⟨t, x, y, rfl, h, a, b⟩ := h
  exact ⟨t, _, rfl, .inl (.inl (of_del h).1), rfl, q _ _ a b⟩
theorem r_t3 {ab : T3 α β γ} {ts : TGs} {σ : L2.St} {Q : L2.St → Hp → Prop} (h : At (del ns H) v ab) (q : ∀ x y z, At (del ns H) x ab.a → At (del ns H) y ab.b → At (del ns H) z ab.c → ts [x, y, z] σ H Q) : gTup K 3 ts v σ H Q := by
  obtain ⟨t, x, y, z, rfl, h, a, b, c⟩ := h
  exact ⟨t, _, rfl, .inl (.inl (of_del h).1), rfl, q _ _ _ a b c⟩
theorem r_t4 {ab : T4 α β γ δ} {ts : TGs} {σ : L2.St} {Q : L2.St → Hp → Prop} (h : At (del ns H) v ab) (q : ∀ x y z u, At (del ns H) x ab.a → At (del ns H) y ab.b → At (del ns H) z ab.c → At (del ns H) u ab.d → ts [x, y, z, u] σ H Q) : gTup K 4 ts v σ H Q := by
  obtain ⟨t, x, y, z, u, rfl, h, a, b, c, d⟩ := h
  exact ⟨t, _, rfl, .inl (.inl (of_del h).1), rfl, q _ _ _ _ a b c d⟩
theorem r_x20 {ab : α × β} (h : At (del ns H) v ab) (q : ∀ x, At (del ns H) x ab.1 → Q x H) : rIxT K v (.int 0) H Q := by
  obtain ⟨t, x, y, rfl, h, a, b⟩ := h
  exact ⟨t, _, 0, _, rfl, rfl, .inl (.inl (of_del h).1), rfl, q _ a⟩
theorem r_x21 {ab : α × β} (h : At (del ns H) v ab) (q : ∀ x, At (del ns H) x ab.2 → Q x H) : rIxT K v (.int 1) H Q := by
  obtain ⟨t, x, y, rfl, h, a, b⟩ := h
  exact ⟨t, _, 1, _, rfl, rfl, .inl (.inl (of_del h).1), rfl, q _ b⟩
theorem r_x30 {ab : T3 α β γ} (h : At (del ns H) v ab) (q : ∀ x, At (del ns H) x ab.a → Q x H) : rIxT K v (.int 0) H Q := by
  obtain ⟨t, x, y, z, rfl, h, a, b, c⟩ := h
  exact ⟨t, _, 0, _, rfl, rfl, .inl (.inl (of_del h).1), rfl, q _ a⟩
theorem r_x31 {ab : T3 α β γ} (h : At (del ns H) v ab) (q : ∀ x, At (del ns H) x ab.b → Q x H) : rIxT K v (.int 1) H Q := by
  obtain ⟨t, x, y, z, rfl, h, a, b, c⟩ := h
  exact ⟨t, _, 1, _, rfl, rfl, .inl (.inl (of_del h).1), rfl, q _ b⟩
theorem r_x32 {ab : T3 α β γ} (h : At (del ns H) v ab) (q : ∀ x, At (del ns H) x ab.c → Q x H) : rIxT K v (.int 2) H Q := by
  obtain ⟨t, x, y, z, rfl, h, a, b, c⟩ := h
  exact ⟨t, _, 2, _, rfl, rfl, .inl (.inl (of_del h).1), rfl, q _ c⟩
theorem r_x40 {ab : T4 α β γ δ} (h : At (del ns H) v ab) (q : ∀ x, At (del ns H) x ab.a → Q x H) : rIxT K v (.int 0) H Q := by
  obtain ⟨t, x, y, z, u, rfl, h, a, b, c, d⟩ := h
  exact ⟨t, _, 0, _, rfl, rfl, .inl (.inl (of_del h).1), rfl, q _ a⟩
theorem r_x41 {ab : T4 α β γ δ} (h : At (del ns H) v ab) (q : ∀ x, At (del ns H) x ab.b → Q x H) : rIxT K v (.int 1) H Q := by
  obtain ⟨t, x, y, z, u, rfl, h, a, b, c, d⟩ := h
  exact ⟨t, _, 1, _, rfl, rfl, .inl (.inl (of_del h).1), rfl, q _ b⟩
theorem r_x42 {ab : T4 α β γ δ} (h : At (del ns H) v ab) (q : ∀ x, At (del ns H) x ab.c → Q x H) : rIxT K v (.int 2) H Q := by
  obtain ⟨t, x, y, z, u, rfl, h, a, b, c, d⟩ := h
  exact ⟨t, _, 2, _, rfl, rfl, .inl (.inl (of_del h).1), rfl, q _ c⟩
theorem r_x43 {ab : T4 α β γ δ} (h : At (del ns H) v ab) (q : ∀ x, At (del ns H) x ab.d → Q x H) : rIxT K v (.int 3) H Q := by
  obtain ⟨t, x, y, z, u, rfl, h, a, b, c, d⟩ := h
  exact ⟨t, _, 3, _, rfl, rfl, .inl (.inl (of_del h).1), rfl, q _ d⟩
theorem atI_ats {l : List α} {i : Int} (h : Ats H xs l) (e : atI l i = some a) : ∃ x, atI xs i = some x ∧ At H x a := by
  unfold atI at e ⊢
  rw [h.len]
  cases j : ixN l.length i with
  | none =>
    rw [j] at e
    cases e
  | some k =>
    rw [j] at e
    exact h.get' e
theorem r_xl {l : List α} {i : Int} (h : At (del ns H) v l) (e : atI l i = some a) (q : ∀ x, At (del ns H) x a → Q x H) : rIxL K v (.int i) H Q := by
  obtain ⟨t, xs, rfl, h, r⟩ := h
  obtain ⟨x, ex, hx⟩ := atI_ats r e
  exact ⟨t, xs, i, x, rfl, rfl, .inl (.inl (of_del h).1), ex, q _ hx⟩
theorem r_xo {l : List α} {i : Int} (h : Own ns H p l) (e : atI l i = some a) (q : ∀ x, At (del ns H) x a → Q x H) : rIxL K (.ref p) (.int i) H Q := by
  obtain ⟨xs, h, r⟩ := h
  obtain ⟨x, ex, hx⟩ := atI_ats r e
  exact ⟨p, xs, i, x, rfl, rfl, .inl (.inl h), ex, q _ hx⟩
theorem r_lenA {l : List α} {R : Nat → Prop} (h : At (del ns H) v l) (q : R l.length) : ∃ x n, [v] = [x] ∧ LenV K x H n ∧ R n := by
  obtain ⟨t, xs, rfl, h, r⟩ := h
  exact ⟨_, _, rfl, .inl ⟨xs, .inl (.inl (of_del h).1), rfl⟩, by rw [r.len]; exact q⟩
theorem r_lenO {l : List α} {R : Nat → Prop} (h : Own ns H p l) (q : R l.length) : ∃ x n, [V.ref p] = [x] ∧ LenV K x H n ∧ R n := by
  obtain ⟨xs, h, r⟩ := h
  exact ⟨_, _, rfl, .inl ⟨xs, .inl (.inl h), rfl⟩, by rw [r.len]; exact q⟩
theorem newL (l : Live ns H) (h : H p = none) {as : List α} (r : Ats (del ns H) xs as) : Fr ns H ns (upd H p (.lst xs)) ∧ At (del ns (upd H p (.lst xs))) (.ref p) as :=
  ⟨.new l h, p, xs, rfl, del_at upd_same (l.not h), r.same (del_same (same_new h))⟩
theorem newO (l : Live ns H) (h : H p = none) {as : List α} (r : Ats (del ns H) xs as) : Fr ns H (p :: ns) (upd H p (.lst xs)) ∧ Own (p :: ns) (upd H p (.lst xs)) p as :=
  ⟨.mkO l h (fun _ e => by cases e), xs, upd_same, r.same (Fr.mkO l h (fun _ e => by cases e)).same⟩
/-- a display of a list -/
theorem r_lstA {as : List α} (l : Live ns H) (r : Ats (del ns H) xs as) (hz : xs.length ≤ 100000) (q : ∀ p H', H p = none → Same H H' → At (del ns H') (.ref p) as → Q (.ref p) H') : NewL xs H Q :=
  ⟨sz hz, fun p hp => q p _ hp (same_new hp) (newL l hp r).2⟩
theorem r_lstO {as : List α} (l : Live ns H) (r : Ats (del ns H) xs as) (hz : xs.length ≤ 100000) (q : ∀ p H', H p = none → Same H H' → Fr ns H (p :: ns) H' → Own (p :: ns) H' p as → Q (.ref p) H') : NewL xs H Q :=
  ⟨sz hz, fun p hp => q p _ hp (same_new hp) (newO l hp r).1 (newO l hp r).2⟩
theorem r_tupA2 {ab : α × β} (l : Live ns H) (ha : At (del ns H) x ab.1) (hb : At (del ns H) y ab.2) (q : ∀ p H', H p = none → Same H H' → At (del ns H') (.ref p) ab → Q (.ref p) H') : NewT [x, y] H Q :=
  ⟨by show 2 ≤ sizeLine; decide, fun p hp => q p _ hp (same_new hp) ⟨p, x, y, rfl, del_at upd_same (l.not hp), Dat.same (del_same (same_new hp)) ha, Dat.same (del_same (same_new hp)) hb⟩⟩
theorem r_tupA3 {z : V} {ab : T3 α β γ} (l : Live ns H) (ha : At (del ns H) x ab.a) (hb : At (del ns H) y ab.b) (hc : At (del ns H) z ab.c) (q : ∀ p H', H p = none → Same H H' → At (del ns H') (.ref p) ab → Q (.ref p) H') : NewT [x, y, z] H Q :=
  ⟨by show 3 ≤ sizeLine; decide, fun p hp => q p _ hp (same_new hp) ⟨p, x, y, z, rfl, del_at upd_same (l.not hp), Dat.same (del_same (same_new hp)) ha, Dat.same (del_same (same_new hp)) hb, Dat.same (del_same (same_new hp)) hc⟩⟩
theorem r_tupA4 {z u : V} {ab : T4 α β γ δ} (l : Live ns H) (ha : At (del ns H) x ab.a) (hb : At (del ns H) y ab.b) (hc : At (del ns H) z ab.c) (hd : At (del ns H) u ab.d) (q : ∀ p H', H p = none → Same H H' → At (del ns H') (.ref p) ab → Q (.ref p) H') : NewT [x, y, z, u] H Q :=
  ⟨by show 4 ≤ sizeLine; decide, fun p hp => q p _ hp (same_new hp) ⟨p, x, y, z, u, rfl, del_at upd_same (l.not hp), Dat.same (del_same (same_new hp)) ha, Dat.same (del_same (same_new hp)) hb, Dat.same (del_same (same_new hp)) hc, Dat.same (del_same (same_new hp)) hd⟩⟩
/-- list(xs) -/
theorem r_listA {as : List α} (l : Live ns H) (h : At (del ns H) v as) (q : ∀ p H', H p = none → Same H H' → At (del ns H') (.ref p) as → Q (.ref p) H') : rListOf K [v] H Q := by
  obtain ⟨t, xs, rfl, h, r⟩ := h
  exact ⟨t, xs, rfl, .inl (.inl (.inl (of_del h).1)), fun p hp => q p _ hp (same_new hp) (newL l hp r).2⟩
theorem r_listO {as : List α} (l : Live ns H) (h : At (del ns H) v as) (q : ∀ p H', H p = none → Same H H' → Fr ns H (p :: ns) H' → Own (p :: ns) H' p as → Q (.ref p) H') : rListOf K [v] H Q := by
  obtain ⟨t, xs, rfl, h, r⟩ := h
  exact ⟨t, xs, rfl, .inl (.inl (.inl (of_del h).1)), fun p hp => q p _ hp (same_new hp) (newO l hp r).1 (newO l hp r).2⟩
theorem r_listOO {as : List α} (l : Live ns H) (h : Own ns H q as) (k : ∀ p H', H p = none → Same H H' → At (del ns H') (.ref p) as → Q (.ref p) H') : rListOf K [.ref q] H Q := by
  obtain ⟨xs, h, r⟩ := h
  exact ⟨q, xs, rfl, .inl (.inl (.inl h)), fun p hp => k p _ hp (same_new hp) (newL l hp r).2⟩
/-- xs + ys -/
theorem r_catA {as bs : List α} (l : Live ns H) (h : At (del ns H) x as) (g : At (del ns H) y bs) (hz : as.length + bs.length ≤ 100000) (q : ∀ p H', H p = none → Same H H' → At (del ns H') (.ref p) (as ++ bs) → Q (.ref p) H') : rCat x y H Q := by
  obtain ⟨t, xs, rfl, h, r⟩ := h
  obtain ⟨t', ys, rfl, h', r'⟩ := g
  exact ⟨t, t', xs, ys, rfl, rfl, (of_del h).1, (of_del h').1, sz (by rw [r.len, r'.len]; exact hz), fun p hp => q p _ hp (same_new hp) (newL l hp (r.app r')).2⟩
def cutL {α : Type} (xs : List α) (lo hi : Option Int) : List α := (xs.drop (HT.sIx xs.length 0 lo)).take (HT.sIx xs.length xs.length hi - HT.sIx xs.length 0 lo)
theorem cutL_from {α : Type} (l : List α) (k : Nat) : cutL l (some (k : Int)) none = l.drop k := by
  unfold cutL
  rw [HT.sIx_none, HT.sIx_nat]
  by_cases h : k ≤ l.length
  · rw [Nat.min_eq_left h, List.take_of_length_le (by rw [List.length_drop]; omega)]
  · rw [Nat.min_eq_right (by omega), List.drop_eq_nil_of_le (Nat.le_refl _), List.drop_eq_nil_of_le (by omega), List.take_nil]
theorem cutL_to {α : Type} (l : List α) (k : Nat) : cutL l none (some (k : Int)) = l.take k := by
  unfold cutL
  rw [HT.sIx_none, HT.sIx_nat, List.drop_zero, Nat.sub_zero]
  by_cases h : k ≤ l.length
  · rw [Nat.min_eq_left h]
  · rw [Nat.min_eq_right (by omega), List.take_of_length_le (Nat.le_refl _), List.take_of_length_le (by omega)]
theorem cutL_len {α : Type} (l : List α) (lo hi : Option Int) : (cutL l lo hi).length ≤ l.length := by
  unfold cutL
  rw [List.length_take, List.length_drop]
  omega
theorem cut_ats {as : List α} {lo hi : Option Int} (r : Ats H xs as) : Ats H (cutV xs lo hi) (cutL as lo hi) := by
  unfold cutV cutL
  rw [r.len]
  exact (r.drop _).take _
theorem r_slA {as : List α} {lo hi : Option Int} (l : Live ns H) (h : At (del ns H) v as) (q : ∀ p H', H p = none → Same H H' → At (del ns H') (.ref p) (cutL as lo hi) → Q (.ref p) H') : rSlL K v lo hi H Q := by
  obtain ⟨t, xs, rfl, h, r⟩ := h
  exact ⟨t, xs, rfl, .inl (.inl (of_del h).1), fun p hp => q p _ hp (same_new hp) (newL l hp (cut_ats r)).2⟩
theorem r_catO {as bs : List α} (l : Live ns H) (h : At (del ns H) x as) (g : At (del ns H) y bs) (hz : as.length + bs.length ≤ 100000) (q : ∀ p H', H p = none → Same H H' → Fr ns H (p :: ns) H' → Own (p :: ns) H' p (as ++ bs) → Q (.ref p) H') : rCat x y H Q := by
  obtain ⟨t, xs, rfl, h, r⟩ := h
  obtain ⟨t', ys, rfl, h', r'⟩ := g
  exact ⟨t, t', xs, ys, rfl, rfl, (of_del h).1, (of_del h').1, sz (by rw [r.len, r'.len]; exact hz), fun p hp => q p _ hp (same_new hp) (newO l hp (r.app r')).1 (newO l hp (r.app r')).2⟩
/-- xs[::-1] -/
theorem r_revA {as : List α} {v : V} (l : Live ns H) (h : At (del ns H) v as) (q : ∀ p H', H p = none → Same H H' → At (del ns H') (.ref p) as.reverse → Q (.ref p) H') : RevG K v H Q := by
  obtain ⟨t, xs, rfl, h, r⟩ := h
  exact ⟨t, xs, rfl, .inl (.inl (of_del h).1), fun p hp => q p _ hp (same_new hp) (newL l hp r.rev).2⟩
/-- changes of a list that may change -/
theorem r_appO {as : List α} (l : Live ns H) (m : p ∈ ns) (h : Own ns H p as) (g : At (del ns H) x a) (hz : as.length < 100000) (q : ∀ H', Fr ns H ns H' → But p H H' → Own ns H' p (as ++ [a]) → Q .non H') : rAppend (.ref p) [x] H Q := by
  obtain ⟨xs, h, r⟩ := h
  have f : Fr ns H ns (upd H p (.lst (xs ++ [x]))) := .put l m (fun _ e => by cases e)
  exact ⟨p, xs, x, rfl, rfl, h, szl (by rw [r.len]; exact hz), q _ f But.upd ⟨_, upd_same, f.ats (r.app (.one g))⟩⟩
theorem r_extO {as bs : List α} (l : Live ns H) (m : p ∈ ns) (h : Own ns H p as) (g : At (del ns H) x bs) (hz : as.length + bs.length ≤ 100000) (q : ∀ H', Fr ns H ns H' → But p H H' → Own ns H' p (as ++ bs) → Q .non H') : rExtend (.ref p) [x] H Q := by
  obtain ⟨xs, h, r⟩ := h
  obtain ⟨t, ys, rfl, h', r'⟩ := g
  have f : Fr ns H ns (upd H p (.lst (xs ++ ys))) := .put l m (fun _ e => by cases e)
  exact ⟨p, t, xs, ys, rfl, rfl, h, (of_del h').1, sz (by rw [r.len, r'.len]; exact hz), q _ f But.upd ⟨_, upd_same, f.ats (r.app r')⟩⟩
def insAt {α : Type} (l : List α) (i : Nat) (a : α) : List α := l.take i ++ [a] ++ l.drop i
theorem r_insO {as : List α} {i : Int} (l : Live ns H) (m : p ∈ ns) (h : Own ns H p as) (g : At (del ns H) x a) (hz : as.length < 100000) (i0 : 0 ≤ i) (i1 : i < 1000000) (k : ∀ H', Fr ns H ns H' → But p H H' → Own ns H' p (insAt as i.toNat a) → Q .non H') :
    rInsert (.ref p) [.int i, x] H Q := by
  obtain ⟨xs, h, r⟩ := h
  have f : Fr ns H ns (upd H p (.lst (xs.take i.toNat ++ [x] ++ xs.drop i.toNat))) := .put l m (fun _ e => by cases e)
  exact ⟨p, xs, i, x, rfl, rfl, h, szl (by rw [r.len]; exact hz), i0, by omega, k _ f But.upd ⟨_, upd_same, f.ats (((r.take _).app (.one g)).app (r.drop _))⟩⟩
theorem at_of_wos {l : List Wo} {ys : List V} (lv : Live ns H) (n : p ∉ ns) (e : H p = some (.lst ys)) (w : Wos H ys l) : At (del ns H) (.ref p) l := ⟨p, ys, rfl, del_at e n, Ats.out lv (ats_wos.mpr w)⟩
theorem Own.tyL {R : Prop} {as : List α} (h : Own ns H p as) (q : R) : tyV K "list" (.ref p) H ∧ R := by
  obtain ⟨xs, h, r⟩ := h
  exact ⟨.inl ⟨rfl, _, .inl (.inl h)⟩, q⟩
theorem at_tyL {R : Prop} {as : List α} (h : At (del ns H) v as) (q : R) : tyV K "list" v H ∧ R := by
  obtain ⟨t, xs, rfl, h, r⟩ := h
  exact ⟨.inl ⟨rfl, _, .inl (.inl (of_del h).1)⟩, q⟩
theorem Own.but {as : List α} (f : Fr ns H ns H') (b : But q H H') (n : p ≠ q) (h : Own ns H p as) : Own ns H' p as := by
  obtain ⟨xs, h, r⟩ := h
  exact ⟨xs, b _ _ h n, f.ats r⟩
theorem Own.fr {as : List α} (f : Fr ns H ms H') (e : ∀ o, H p = some o → H' p = some o) (h : Own ns H p as) : Own ms H' p as := by
  obtain ⟨xs, h, r⟩ := h
  exact ⟨xs, e _ h, f.ats r⟩
theorem Own.lv {as : List α} (h : Own ns H p as) : Lv H p := .lst h.choose_spec.1
/-- it changes no more -/
theorem Own.shut {as : List α} (h : Own (p :: ns) H p as) (n : p ∉ ns) : At (del ns H) (.ref p) as := by
  obtain ⟨xs, h, r⟩ := h
  exact ⟨p, xs, rfl, del_at h n, r.same del_less⟩
/-- it may change from now on: what else stands must stand elsewhere -/
theorem ty_listA {as : List α} (h : At (del ns H) v as) : TyX K H v (.type "list") := by
  obtain ⟨t, xs, rfl, h, r⟩ := h
  exact ty_lst (of_del h).1
theorem ty_tupA2 {ab : α × β} (h : At (del ns H) v ab) : TyX K H v (.type "tuple") := by
  obtain ⟨t, x, y, rfl, h, r⟩ := h
  exact ty_tup (of_del h).1
/-! loops over data -/
theorem LA {l : List α} {σ : L2.St} {g : TG} {tb : TS} {nx : L2.St → Hp → Prop} {rt : VK} (h : At (del ns H) v l) (Pv : Nat → L2.St → Hp → Prop) (h0 : Pv 0 σ H) (hF : ∀ i σ H', i ≤ l.length → Pv i σ H' → Fr ns H ms H')
    (hs : ∀ i b x σ H', l[i]? = some b → At (del ms H') x b → Pv i σ H' → g x σ H' fun σ2 H2 => tb ⟨Pv (i + 1), rt, nx, Pv (i + 1)⟩ σ2 H2) (hd : ∀ σ H', Pv l.length σ H' → nx σ H') :
    ∃ a, v = .ref a ∧ (∃ xs, SqL K H a xs) ∧ ForL (Itl K a) g tb nx rt σ H := by
  obtain ⟨t, xs, rfl, h, r⟩ := h
  have sq : ∀ i σ H', i ≤ xs.length → Pv i σ H' → SqL K H' t xs := fun i σ H' hi hp => .inl (.inl (of_del ((hF i σ H' (by rw [← r.len]; exact hi) hp).same _ _ h)).1)
  refine ⟨t, rfl, ⟨xs, .inl (.inl (of_del h).1)⟩, L_list Pv h0 sq (fun i x σ H' hx hp => ?_) (by rw [r.len]; exact hd)⟩
  obtain ⟨b, eb, hb⟩ := r.get hx
  have hi : i < l.length := (List.getElem?_eq_some_iff.mp eb).1
  exact hs i b x σ H' eb ((hF i σ H' (Nat.le_of_lt hi) hp).at_ hb) hp
/-! comprehensions over data -/
structure CInv (ns : List Addr) (H : Hp) (E : Nat → Hp → Prop) (R : Nat → List γ → Prop) (D : Addr) (i : Nat) (zs : List γ) (H1 : Hp) : Prop where
  D0 : H D = none
  own : Own (D :: ns) H1 D zs
  r : R i zs
  len : zs.length ≤ i
  fr : Fr ns H (D :: ns) H1
  ex : E i H1
  out : D ∉ ns
def CPv (ns : List Addr) (H : Hp) (E : Nat → Hp → Prop) (R : Nat → List γ → Prop) (D : Addr) (i : Nat) (H1 : Hp) : Prop := ∃ zs, CInv ns H E R D i zs H1
section
variable {E : Nat → Hp → Prop} {R : Nat → List γ → Prop} {D : Addr} {i : Nat} {zs : List γ} {c : γ}
/-- with what has been made so far as what may change -/
theorem CInv.lv (k : CInv ns H E R D i zs H1) : Live (D :: ns) H1 := k.fr.live
theorem CInv.step (k : CInv ns H E R D i zs H1) (f : Fr ns H1 ns H2) : Fr (D :: ns) H1 (D :: ns) H2 := f.mono k.lv fun _ m => List.mem_cons_of_mem _ m
theorem CInv.put (k : CInv ns H E R D i zs H1) (f : Fr ns H1 ns H2) (e : E (i + 1) H2) (a : At (del (D :: ns) H2) y c) (r : R (i + 1) (zs ++ [c])) (hi : i < 100000) (est : ∀ o, E (i + 1) H2 → E (i + 1) (upd H2 D o)) :
    ∃ acc, H2 D = some (.lst acc) ∧ acc.length < sizeLine ∧ CPv ns H E R D (i + 1) (upd H2 D (.lst (acc ++ [y]))) := by
  obtain ⟨ys, ey, ry⟩ := k.own
  have g := k.step f
  have eD : H2 D = some (.lst ys) := f.keep ey k.out
  have p : Fr (D :: ns) H2 (D :: ns) (upd H2 D (.lst (ys ++ [y]))) := .put g.live List.mem_cons_self (fun _ e => by cases e)
  have hl := k.len
  refine ⟨ys, eD, szl (by rw [ry.len]; omega), zs ++ [c], k.D0, ⟨_, upd_same, p.ats ((g.ats ry).app (.one a))⟩, r, by rw [List.length_append, List.length_singleton]; omega, (k.fr.trans g).trans p, est _ e, k.out⟩
theorem CInv.skip (k : CInv ns H E R D i zs H1) (f : Fr ns H1 ns H2) (e : E (i + 1) H2) (r : R (i + 1) zs) : CPv ns H E R D (i + 1) H2 := by
  have g := k.step f
  obtain ⟨ys, ey, ry⟩ := k.own
  exact ⟨zs, k.D0, ⟨ys, f.keep ey k.out, g.ats ry⟩, r, Nat.le_succ_of_le k.len, k.fr.trans g, e, k.out⟩
theorem CA_core {J : It} {n : Nat} {Gd : Hp → Prop} {Y : Nat → Hp → V → Hp → Prop} (w : L2.Walk J n Gd Y) {g : TG} {tt : TT} {te : TE} {vs : List Nat} {σ : L2.St} (lv : Live ns H)
    (E : Nat → Hp → Prop) (R : Nat → List γ → Prop) (r0 : R 0 []) (e0 : E 0 H) (est : ∀ i D o H', H D = none → D ∉ ns → E i H' → E i (upd H' D o))
    (hG : ∀ D H', Fr ns H (D :: ns) H' → Gd H')
    (hs : ∀ D i x zs H1 H', i < n → CInv ns H E R D i zs H1 → Y i H1 x H' → g x (wipe σ vs) H' fun σ2 H2 => wipe σ2 vs = wipe σ vs ∧ tt σ2 H2 fun b H3 =>
      if b = true then te σ2 H3 fun y H4 => ∃ acc, H4 D = some (.lst acc) ∧ acc.length < sizeLine ∧ CPv ns H E R D (i + 1) (upd H4 D (.lst (acc ++ [y]))) else CPv ns H E R D (i + 1) H3)
    (hd : ∀ D H' zs, H D = none → Fr ns H ns H' → E n H' → R n zs → zs.length ≤ n → At (del ns H') (.ref D) zs → Q (.ref D) H') : LcL J g tt te vs σ H Q := by
  refine C_it w (CPv ns H E R) (fun D hD => ⟨[], hD, ⟨[], upd_same, .nil⟩, r0, Nat.le_refl _, .mkO lv hD (fun _ e => by cases e), est _ _ _ _ hD (lv.not hD) e0, lv.not hD⟩) (fun D i H' _ ⟨zs, k⟩ => hG D H' k.fr) ?_ ?_
  · rintro D i x H1 H' hi ⟨zs, k⟩ hy
    exact hs D i x zs H1 H' hi k hy
  · rintro D H' hD ⟨zs, k⟩
    exact hd D H' zs hD (k.fr.trans (.drop k.lv)) k.ex k.r k.len (k.own.shut k.out)
end
/-- the same, the list may change from now on -/
theorem CO_core {J : It} {n : Nat} {Gd : Hp → Prop} {Y : Nat → Hp → V → Hp → Prop} (w : L2.Walk J n Gd Y) {g : TG} {tt : TT} {te : TE} {vs : List Nat} {σ : L2.St} (lv : Live ns H)
    (E : Nat → Hp → Prop) (R : Nat → List γ → Prop) (r0 : R 0 []) (e0 : E 0 H) (est : ∀ i D o H', H D = none → D ∉ ns → E i H' → E i (upd H' D o))
    (hG : ∀ D H', Fr ns H (D :: ns) H' → Gd H')
    (hs : ∀ D i x zs H1 H', i < n → CInv ns H E R D i zs H1 → Y i H1 x H' → g x (wipe σ vs) H' fun σ2 H2 => wipe σ2 vs = wipe σ vs ∧ tt σ2 H2 fun b H3 =>
      if b = true then te σ2 H3 fun y H4 => ∃ acc, H4 D = some (.lst acc) ∧ acc.length < sizeLine ∧ CPv ns H E R D (i + 1) (upd H4 D (.lst (acc ++ [y]))) else CPv ns H E R D (i + 1) H3)
    (hd : ∀ D H' zs, CInv ns H E R D n zs H' → Q (.ref D) H') : LcL J g tt te vs σ H Q := by
  refine C_it w (CPv ns H E R) (fun D hD => ⟨[], hD, ⟨[], upd_same, .nil⟩, r0, Nat.le_refl _, .mkO lv hD (fun _ e => by cases e), est _ _ _ _ hD (lv.not hD) e0, lv.not hD⟩) (fun D i H' _ ⟨zs, k⟩ => hG D H' k.fr) ?_ ?_
  · rintro D i x H1 H' hi ⟨zs, k⟩ hy
    exact hs D i x zs H1 H' hi k hy
  · rintro D H' hD ⟨zs, k⟩
    exact hd D H' zs k
/-- [.. for x in l], l data -/
theorem CA {l : List β} {g : TG} {tt : TT} {te : TE} {vs : List Nat} {σ : L2.St} (lv : Live ns H) (h : At (del ns H) v l)
    (E : Nat → Hp → Prop) (R : Nat → List γ → Prop) (r0 : R 0 []) (e0 : E 0 H) (est : ∀ i D o H', H D = none → D ∉ ns → E i H' → E i (upd H' D o))
    (hs : ∀ D i x b zs H1, l[i]? = some b → CInv ns H E R D i zs H1 → At (del (D :: ns) H1) x b → g x (wipe σ vs) H1 fun σ2 H2 => wipe σ2 vs = wipe σ vs ∧ tt σ2 H2 fun b H3 =>
      if b = true then te σ2 H3 fun y H4 => ∃ acc, H4 D = some (.lst acc) ∧ acc.length < sizeLine ∧ CPv ns H E R D (i + 1) (upd H4 D (.lst (acc ++ [y]))) else CPv ns H E R D (i + 1) H3)
    (hd : ∀ D H' zs, H D = none → Fr ns H ns H' → E l.length H' → R l.length zs → zs.length ≤ l.length → At (del ns H') (.ref D) zs → Q (.ref D) H') :
    ∃ a, v = .ref a ∧ (∃ xs, SqL K H a xs) ∧ LcL (Itl K a) g tt te vs σ H Q := by
  obtain ⟨t, xs, rfl, h, r⟩ := h
  refine ⟨t, rfl, ⟨xs, .inl (.inl (of_del h).1)⟩, CA_core (walk_list (K := K) (a := t) (xs := xs)) lv E R r0 e0 est (fun D H' f => .inl (.inl (of_del (f.same _ _ h)).1)) ?_ (by rw [r.len]; exact hd)⟩
  rintro D i x zs H1 H' hi k ⟨rfl, ex⟩
  obtain ⟨b, eb, hb⟩ := r.get ex
  exact hs D i x b zs H' eb k (k.fr.at_ hb)
/-- [.. for k in range(n)] -/
theorem CR {lo : Int} {n : Nat} {g : TG} {tt : TT} {te : TE} {vs : List Nat} {σ : L2.St} (lv : Live ns H)
    (E : Nat → Hp → Prop) (R : Nat → List γ → Prop) (r0 : R 0 []) (e0 : E 0 H) (est : ∀ i D o H', H D = none → D ∉ ns → E i H' → E i (upd H' D o))
    (hs : ∀ D i zs H1, i < n → CInv ns H E R D i zs H1 → g (.int (lo + i)) (wipe σ vs) H1 fun σ2 H2 => wipe σ2 vs = wipe σ vs ∧ tt σ2 H2 fun b H3 =>
      if b = true then te σ2 H3 fun y H4 => ∃ acc, H4 D = some (.lst acc) ∧ acc.length < sizeLine ∧ CPv ns H E R D (i + 1) (upd H4 D (.lst (acc ++ [y]))) else CPv ns H E R D (i + 1) H3)
    (hd : ∀ D H' zs, H D = none → Fr ns H ns H' → E n H' → R n zs → zs.length ≤ n → At (del ns H') (.ref D) zs → Q (.ref D) H') : LcL (Itr lo n) g tt te vs σ H Q := by
  refine CA_core (walk_range (lo := lo) (n := n)) lv E R r0 e0 est (fun _ _ _ => trivial) ?_ hd
  rintro D i x zs H1 H' hi k ⟨rfl, rfl⟩
  exact hs D i zs H' hi k
theorem CRo {lo : Int} {n : Nat} {g : TG} {tt : TT} {te : TE} {vs : List Nat} {σ : L2.St} (lv : Live ns H)
    (E : Nat → Hp → Prop) (R : Nat → List γ → Prop) (r0 : R 0 []) (e0 : E 0 H) (est : ∀ i D o H', H D = none → D ∉ ns → E i H' → E i (upd H' D o))
    (hs : ∀ D i zs H1, i < n → CInv ns H E R D i zs H1 → g (.int (lo + i)) (wipe σ vs) H1 fun σ2 H2 => wipe σ2 vs = wipe σ vs ∧ tt σ2 H2 fun b H3 =>
      if b = true then te σ2 H3 fun y H4 => ∃ acc, H4 D = some (.lst acc) ∧ acc.length < sizeLine ∧ CPv ns H E R D (i + 1) (upd H4 D (.lst (acc ++ [y]))) else CPv ns H E R D (i + 1) H3)
    (hd : ∀ D H' zs, CInv ns H E R D n zs H' → Q (.ref D) H') : LcL (Itr lo n) g tt te vs σ H Q := by
  refine CO_core (walk_range (lo := lo) (n := n)) lv E R r0 e0 est (fun _ _ _ => trivial) ?_ hd
  rintro D i x zs H1 H' hi k ⟨rfl, rfl⟩
  exact hs D i zs H' hi k
/-- the same where nothing that stood is changed: [f b for b in l if ..] -/
abbrev CMI (ns : List Addr) (H : Hp) (l : List β) (f : β → Option γ) : Addr → Nat → List γ → Hp → Prop := CInv ns H (fun _ H' => Same H H') (fun i zs => zs = (l.take i).filterMap f)
abbrev CMP (ns : List Addr) (H : Hp) (l : List β) (f : β → Option γ) : Addr → Nat → Hp → Prop := CPv ns H (fun _ H' => Same H H') (fun i zs => zs = (l.take i).filterMap f)
section
variable {l : List β} {f : β → Option γ} {D : Addr} {i : Nat} {zs : List γ} {c : γ} {b : β}
theorem CInv.mput (k : CMI ns H l f D i zs H1) (eb : l[i]? = some b) (ef : f b = some c) (s : Same H1 H2) (a : At (del (D :: ns) H2) y c) (hl : l.length ≤ 100000 := by omega) :
    ∃ acc, H2 D = some (.lst acc) ∧ acc.length < sizeLine ∧ CMP ns H l f D (i + 1) (upd H2 D (.lst (acc ++ [y]))) := by
  have hi : i < l.length := (List.getElem?_eq_some_iff.mp eb).1
  have r := k.r
  exact k.put (.of (k.lv.sub fun _ m => List.mem_cons_of_mem _ m) s) (Same.trans k.ex s) a (by rw [List.take_add_one, eb, r]; simp [ef]) (by omega) fun o e => Same.own e k.D0
theorem CInv.mskip (k : CMI ns H l f D i zs H1) (eb : l[i]? = some b) (ef : f b = none) (s : Same H1 H2) : CMP ns H l f D (i + 1) H2 := by
  have r := k.r
  exact k.skip (.of (k.lv.sub fun _ m => List.mem_cons_of_mem _ m) s) (Same.trans k.ex s) (by rw [List.take_add_one, eb, r]; simp [ef])
end
theorem CM {l : List β} {g : TG} {tt : TT} {te : TE} {vs : List Nat} {σ : L2.St} (f : β → Option γ) (lv : Live ns H) (h : At (del ns H) v l)
    (hs : ∀ D i x b zs H1, l[i]? = some b → CMI ns H l f D i zs H1 → At (del (D :: ns) H1) x b → g x (wipe σ vs) H1 fun σ2 H2 => wipe σ2 vs = wipe σ vs ∧ tt σ2 H2 fun b H3 =>
      if b = true then te σ2 H3 fun y H4 => ∃ acc, H4 D = some (.lst acc) ∧ acc.length < sizeLine ∧ CMP ns H l f D (i + 1) (upd H4 D (.lst (acc ++ [y]))) else CMP ns H l f D (i + 1) H3)
    (hd : ∀ D H', H D = none → Same H H' → At (del ns H') (.ref D) (l.filterMap f) → Q (.ref D) H') :
    ∃ a, v = .ref a ∧ (∃ xs, SqL K H a xs) ∧ LcL (Itl K a) g tt te vs σ H Q :=
  CA lv h _ _ rfl (Same.refl _) (fun _ D o H' hD _ e => Same.own e hD) hs fun D H' zs hD f' e r _ a => hd D H' hD e (by rw [← List.take_length (l := l), ← r]; exact a)
/-- [.. for b, c in zip(l, m)] -/
theorem CZ {ζ : Type} [Dat ζ] {l : List β} {m : List γ} {g : TG} {tt : TT} {te : TE} {vs : List Nat} {σ : L2.St} {u : V} (f : β × γ → Option ζ) (lv : Live ns H) (h : At (del ns H) v l) (h' : At (del ns H) u m)
    (hs : ∀ D i x b zs H1, (l.zip m)[i]? = some b → CMI ns H (l.zip m) f D i zs H1 → At (del (D :: ns) H1) x b → g x (wipe σ vs) H1 fun σ2 H2 => wipe σ2 vs = wipe σ vs ∧ tt σ2 H2 fun b H3 =>
      if b = true then te σ2 H3 fun y H4 => ∃ acc, H4 D = some (.lst acc) ∧ acc.length < sizeLine ∧ CMP ns H (l.zip m) f D (i + 1) (upd H4 D (.lst (acc ++ [y]))) else CMP ns H (l.zip m) f D (i + 1) H3)
    (hd : ∀ D H', H D = none → Same H H' → At (del ns H') (.ref D) ((l.zip m).filterMap f) → Q (.ref D) H') :
    ∃ a b xs ys, [v, u] = [.ref a, .ref b] ∧ SqL K H a xs ∧ SqL K H b ys ∧ LcL (Itz K a b) g tt te vs σ H Q := by
  obtain ⟨t, xs, rfl, h, r⟩ := h
  obtain ⟨t', ys, rfl, h', r'⟩ := h'
  refine ⟨t, t', xs, ys, rfl, .inl (.inl (of_del h).1), .inl (.inl (of_del h').1), CA_core (walk_zip (K := K) (a := t) (b := t') (n := (l.zip m).length) (by rw [List.length_zip, r.len, r'.len])) lv (fun _ H' => Same H H') (fun i zs => zs = ((l.zip m).take i).filterMap f) rfl (Same.refl _) (fun _ D o H' hD _ e => Same.own e hD) (fun D H' f => ⟨.inl (.inl (of_del (f.same _ _ h)).1), .inl (.inl (of_del (f.same _ _ h')).1)⟩) ?_ fun D H' zs hD f' e r _ a => hd D H' hD e (by rw [← List.take_length (l := l.zip m), ← r]; exact a)⟩
  rintro D i _ zs H1 H' hi k ⟨T, x, y, rfl, hT, rfl, ex, ey⟩
  obtain ⟨b, eb, hb⟩ := (r.same k.fr.same).get ex
  obtain ⟨c, ec, hc⟩ := (r'.same k.fr.same).get ey
  have s := same_new (o := .tup [x, y]) hT
  have lD : Live (D :: ns) H1 := k.lv
  obtain ⟨zy, ezy, rz⟩ := k.own
  refine hs D i _ (b, c) zs _ (List.getElem?_zip_eq_some.mpr ⟨eb, ec⟩) ⟨k.D0, ⟨zy, s _ _ ezy, rz.same (del_same s)⟩, k.r, k.len, k.fr.trans (.of lD s), Same.trans k.ex s, k.out⟩ ?_
  exact ⟨T, x, y, rfl, del_at upd_same (lD.not hT), Dat.same (del_same s) hb, Dat.same (del_same s) hc⟩
instance : Dat Bool where
  At := fun _ v a => v = .bl a
  enc := .bool
  dep := 0
  same := fun _ h => h
  dp := fun h => h ▸ .bl _
  lay := fun _ => ⟨by simp [PyData.canLay0], by simp [PyData.depth]⟩
  inj := fun {_ _ _ _ a b} _ _ e => by cases a <;> cases b <;> simp_all [PyData.eqv]
theorem at_bl {H : Hp} {b : Bool} : At H (.bl b) b := rfl
theorem ats_bool {H : Hp} : ∀ {xs : List V} {l : List Bool}, Ats H xs l → xs = l.map V.bl
  | _, _, .nil => rfl
  | _, _, .cons a r => by rw [show _ = V.bl _ from a, ats_bool r]; rfl
theorem ats_int {H : Hp} : ∀ {xs : List V} {l : List Int}, Ats H xs l → xs = l.map V.int
  | _, _, .nil => rfl
  | _, _, .cons a r => by rw [show _ = V.int _ from a, ats_int r]; rfl
theorem ats_str {H : Hp} : ∀ {xs : List V} {l : List Str}, Ats H xs l → xs = l.map V.str
  | _, _, .nil => rfl
  | _, _, .cons a r => by rw [show _ = V.str _ from a.1, ats_str r]; rfl
theorem ats_of_str {H : Hp} : ∀ {l : List Str}, (∀ s ∈ l, PyData.strOk s = true) → Ats H (l.map V.str) l
  | [], _ => .nil
  | _ :: _, h => .cons ⟨rfl, h _ List.mem_cons_self⟩ (ats_of_str fun s m => h s (List.mem_cons_of_mem _ m))
theorem ats_of_int {H : Hp} : ∀ {l : List Int}, Ats H (l.map V.int) l
  | [] => .nil
  | _ :: _ => .cons rfl ats_of_int
instance : Dat Nat where
  At := fun _ v a => v = .int (a : Int)
  enc := fun a => .int (a : Int)
  dep := 0
  same := fun _ h => h
  dp := fun h => h ▸ .int _
  lay := fun _ => .int _
  inj := fun _ _ e => by
    simp [PyData.eqv] at e
    omega
theorem r_allA {l : List Bool} (h : At (del ns H) v l) (q : Q (.bl (l.all id)) H) : rAll K [v] H Q := by
  obtain ⟨p, xs, rfl, ep, rx⟩ := h
  exact ⟨p, l, rfl, .inl (.inl (by rw [← ats_bool rx]; exact (of_del ep).1)), q⟩
theorem r_anyA {l : List Bool} (h : At (del ns H) v l) (q : Q (.bl (l.any id)) H) : rAny K [v] H Q := by
  obtain ⟨p, xs, rfl, ep, rx⟩ := h
  exact ⟨p, l, rfl, .inl (.inl (by rw [← ats_bool rx]; exact (of_del ep).1)), q⟩
/-- [.. for sign in text] -/
theorem CS {z : Str} {g : TG} {tt : TT} {te : TE} {vs : List Nat} {σ : L2.St} (f : Nat → Option γ) (lv : Live ns H)
    (hs : ∀ D i b zs H1, z.cps.toList[i]? = some b → CMI ns H z.cps.toList f D i zs H1 → g (.str ⟨#[b]⟩) (wipe σ vs) H1 fun σ2 H2 => wipe σ2 vs = wipe σ vs ∧ tt σ2 H2 fun b H3 =>
      if b = true then te σ2 H3 fun y H4 => ∃ acc, H4 D = some (.lst acc) ∧ acc.length < sizeLine ∧ CMP ns H z.cps.toList f D (i + 1) (upd H4 D (.lst (acc ++ [y]))) else CMP ns H z.cps.toList f D (i + 1) H3)
    (hd : ∀ D H', H D = none → Same H H' → At (del ns H') (.ref D) (z.cps.toList.filterMap f) → Q (.ref D) H') : LcL (Its z) g tt te vs σ H Q := by
  refine CA_core (walk_str (z := z)) lv (fun _ H' => Same H H') (fun i zs => zs = (z.cps.toList.take i).filterMap f) rfl (Same.refl _) (fun _ D o H' hD _ e => Same.own e hD) (fun _ _ _ => trivial) ?_ fun D H' zs hD f' e r _ a => hd D H' hD e (by rw [← List.take_length (l := z.cps.toList), Array.length_toList, ← r]; exact a)
  rintro D i x zs H1 H' hi k ⟨rfl, c, ec, rfl⟩
  exact hs D i c zs H' (by rw [Array.getElem?_toList]; exact ec) k
/-- [f k for k in range(n) if ..] where nothing that stood is changed -/
abbrev CRI (ns : List Addr) (H : Hp) (f : Nat → Option γ) : Addr → Nat → List γ → Hp → Prop := CInv ns H (fun _ H' => Same H H') (fun i zs => zs = (List.range i).filterMap f)
abbrev CRP (ns : List Addr) (H : Hp) (f : Nat → Option γ) : Addr → Nat → Hp → Prop := CPv ns H (fun _ H' => Same H H') (fun i zs => zs = (List.range i).filterMap f)
section
variable {f : Nat → Option γ} {D : Addr} {i : Nat} {zs : List γ} {c : γ}
theorem CInv.rput (k : CRI ns H f D i zs H1) (ef : f i = some c) (s : Same H1 H2) (a : At (del (D :: ns) H2) y c) (hl : i < 100000 := by omega) :
    ∃ acc, H2 D = some (.lst acc) ∧ acc.length < sizeLine ∧ CRP ns H f D (i + 1) (upd H2 D (.lst (acc ++ [y]))) := by
  have r := k.r
  exact k.put (.of (k.lv.sub fun _ m => List.mem_cons_of_mem _ m) s) (Same.trans k.ex s) a (by rw [List.range_succ, r]; simp [ef]) hl fun o e => Same.own e k.D0
theorem CInv.rskip (k : CRI ns H f D i zs H1) (ef : f i = none) (s : Same H1 H2) : CRP ns H f D (i + 1) H2 := by
  have r := k.r
  exact k.skip (.of (k.lv.sub fun _ m => List.mem_cons_of_mem _ m) s) (Same.trans k.ex s) (by rw [List.range_succ, r]; simp [ef])
end
theorem CRM {lo : Int} {n : Nat} {g : TG} {tt : TT} {te : TE} {vs : List Nat} {σ : L2.St} (f : Nat → Option γ) (lv : Live ns H)
    (hs : ∀ D i zs H1, i < n → CRI ns H f D i zs H1 → g (.int (lo + i)) (wipe σ vs) H1 fun σ2 H2 => wipe σ2 vs = wipe σ vs ∧ tt σ2 H2 fun b H3 =>
      if b = true then te σ2 H3 fun y H4 => ∃ acc, H4 D = some (.lst acc) ∧ acc.length < sizeLine ∧ CRP ns H f D (i + 1) (upd H4 D (.lst (acc ++ [y]))) else CRP ns H f D (i + 1) H3)
    (hd : ∀ D H', H D = none → Same H H' → At (del ns H') (.ref D) ((List.range n).filterMap f) → Q (.ref D) H') : LcL (Itr lo n) g tt te vs σ H Q :=
  CR lv _ _ rfl (Same.refl _) (fun _ D o H' hD _ e => Same.own e hD) hs fun D H' zs hD f' e r _ a => hd D H' hD e (by rw [← r]; exact a)
theorem r_catOA {as bs : List α} (l : Live ns H) (h : Own ns H q as) (g : At (del ns H) y bs) (hz : as.length + bs.length ≤ 100000) (k : ∀ p H', H p = none → Same H H' → At (del ns H') (.ref p) (as ++ bs) → Q (.ref p) H') : rCat (.ref q) y H Q := by
  obtain ⟨xs, h, r⟩ := h
  obtain ⟨t', ys, rfl, h', r'⟩ := g
  exact ⟨q, t', xs, ys, rfl, rfl, h, (of_del h').1, sz (by rw [r.len, r'.len]; exact hz), fun p hp => k p _ hp (same_new hp) (newL l hp (r.app r')).2⟩
/-- for .. in zip(l, m) -/
theorem LZ {l : List α} {m : List β} {u : V} {σ : L2.St} {g : TG} {tb : TS} {nx : L2.St → Hp → Prop} {rt : VK} (h : At (del ns H) v l) (h' : At (del ns H) u m) (Pv : Nat → L2.St → Hp → Prop) (h0 : Pv 0 σ H) (hF : ∀ i σ H', i ≤ (l.zip m).length → Pv i σ H' → Fr ns H ms H')
    (hs : ∀ i b x σ H', (l.zip m)[i]? = some b → At (del ms H') x b → Pv i σ H' → g x σ H' fun σ2 H2 => tb ⟨Pv (i + 1), rt, nx, Pv (i + 1)⟩ σ2 H2) (hd : ∀ σ H', Pv (l.zip m).length σ H' → nx σ H')
    (hk : ∀ i σ H' H2, Pv i σ H' → Same H' H2 → Pv i σ H2 := by (rintro i σ H' H2 ⟨u3, u4, rfl, s5, al⟩ s; exact ⟨_, _, rfl, s5.trans s, al⟩)) :
    ∃ a b xs ys, [v, u] = [.ref a, .ref b] ∧ SqL K H a xs ∧ SqL K H b ys ∧ ForL (Itz K a b) g tb nx rt σ H := by
  obtain ⟨t, xs, rfl, h, r⟩ := h
  obtain ⟨t', ys, rfl, h', r'⟩ := h'
  refine ⟨t, t', xs, ys, rfl, .inl (.inl (of_del h).1), .inl (.inl (of_del h').1), L_it (walk_zip (K := K) (a := t) (b := t') (n := (l.zip m).length) (by rw [List.length_zip, r.len, r'.len])) Pv h0 (fun i σ H' hi hp => ⟨.inl (.inl (of_del ((hF i σ H' hi hp).same _ _ h)).1), .inl (.inl (of_del ((hF i σ H' hi hp).same _ _ h')).1)⟩) ?_ hd⟩
  rintro i _ σ H1 H' hi hp ⟨T, x, y, rfl, hT, rfl, ex, ey⟩
  have f := hF i σ H1 (Nat.le_of_lt hi) hp
  obtain ⟨b, eb, hb⟩ := (r.same f.same).get ex
  obtain ⟨c, ec, hc⟩ := (r'.same f.same).get ey
  have s := same_new (o := .tup [x, y]) hT
  exact hs i (b, c) _ σ _ (List.getElem?_zip_eq_some.mpr ⟨eb, ec⟩) ⟨T, x, y, rfl, del_at upd_same (f.live.not hT), Dat.same (del_same s) hb, Dat.same (del_same s) hc⟩ (hk i σ H1 _ hp s)
/-- xs * k -/
theorem r_repA {as : List α} {k : Int} (l : Live ns H) (h : At (del ns H) v as) (k0 : -1000 ≤ k) (k1 : k ≤ 1000) (hl : as.length ≤ 10000) (q : ∀ p H', H p = none → Same H H' → At (del ns H') (.ref p) (List.replicate k.toNat as).flatten → Q (.ref p) H') : rRep v (.int k) H Q := by
  obtain ⟨t, xs, rfl, h, r⟩ := h
  refine ⟨t, k, xs, rfl, rfl, (of_del h).1, by omega, by omega, ?_, fun p hp => q p _ hp (same_new hp) (newL l hp (r.rep _)).2⟩
  rw [r.len, show sizeLine = 16777216 from rfl]
  have := Nat.mul_le_mul hl (show k.toNat ≤ 1000 by omega)
  omega
end
end G

namespace G
open PySem PySem.Spec PyProof.Rows L2 L2.DX
/-! ### views of a dict; pairs sorted -/
def valuesO (p d : Addr) : HO := .ext fun h => h.IsValuesView p d
section
variable {X : Cx}
def rItemsK : V → List V → Hp → VK → Prop := fun x xs H Q => ∃ (a : Addr) (kvs : List (L2.Key × V)), x = .ref a ∧ xs = [] ∧ H a = some (.dK kvs) ∧ ∀ p, H p = none → Q (.ref p) (upd H p (itemsO p a))
theorem mt_itemsK : MtR X "dict.items" rItemsK := by
  intro pins s σ H x xs v us Q I rx rxs h
  obtain ⟨a, kvs, rfl, rfl, ha, q⟩ := h
  cases rx
  cases rxs
  obtain ⟨z, hd, vs, kv, o, es, ep, ho, hx, hdat, _⟩ := I.hok a _ ha
  refine DT.callItems (es := es) (ep := ep) hd ⟨o, ho, hx, hdat⟩ ?_
  have hf : H s.heap.objs.size = none := I.hok.fresh (Nat.le_refl _)
  exact ⟨.ref s.heap.objs.size, upd H s.heap.objs.size (itemsO s.heap.objs.size a), I.laid (t' := s.toks) (fun b u e => Heap.get?_push_of_some _ e) (Nat.le_refl _) (itemsO_ok (Heap.get?_push_size _ rfl)), rfl, q _ hf⟩
def rValuesK : V → List V → Hp → VK → Prop := fun x xs H Q => ∃ (a : Addr) (kvs : List (L2.Key × V)), x = .ref a ∧ xs = [] ∧ H a = some (.dK kvs) ∧ ∀ p, H p = none → Q (.ref p) (upd H p (valuesO p a))
theorem mt_valuesK : MtR X "dict.values" rValuesK := by
  intro pins s σ H x xs v us Q I rx rxs h
  obtain ⟨a, kvs, rfl, rfl, ha, q⟩ := h
  cases rx
  cases rxs
  obtain ⟨z, hd, vs, kv, D⟩ := I.hok a _ ha
  have hf : H s.heap.objs.size = none := I.hok.fresh (Nat.le_refl _)
  refine call_meetsIn PySem.F.slot_dict_values D.typeIs PySem.F.entry_dict_values (PySem.F.args_dict_values_1 _) (meets_dict_values (mixKind X.prog X.w) a hd) ⟨⟨vs, D⟩, ?_⟩
  exact ⟨.ref s.heap.objs.size, upd H s.heap.objs.size (valuesO s.heap.objs.size a), I.laid (t' := s.toks) (fun b u e => Heap.get?_push_of_some _ e) (Nat.le_refl _) ⟨⟨_, Heap.get?_push_size _ rfl, rfl, rfl⟩, ⟨_, Heap.get?_push_size _ rfl⟩, fun h1 h2 x k => let ⟨o, ho, r⟩ := x; ⟨o, k o ho, r⟩⟩, rfl, q _ hf⟩
def rListVals : List V → Hp → VK → Prop := fun vs H Q => ∃ (p a : Addr) (kvs : List (L2.Key × V)), vs = [.ref p] ∧ H p = some (valuesO p a) ∧ H a = some (.dK kvs) ∧ ∀ l, H l = none → Q (.ref l) (upd H l (.lst (kvs.map Prod.snd)))
theorem kv_snd {κ : Type} : ∀ {kvs : List (κ × V)} {vs : List (κ × Value)}, KV kvs vs → Vals (kvs.map Prod.snd) (vs.map (·.2))
  | _, _, .nil => .nil
  | _, _, .cons a b => .cons a.2 (kv_snd b)
theorem call_listVals (hc : X.calm = true) : CallR X (.type "list") rListVals := by
  intro pins s σ H xs us Q I r h
  obtain ⟨p, a, kvs, rfl, hp, ha, q⟩ := h
  obtain rfl := Vals.ref1 r
  have view : s.heap.IsValuesView p a := (show ObjOk X.prog X.w H s.heap p (valuesO p a) from I.hok p _ hp).1
  obtain ⟨z, hd, vs, kv, D⟩ := I.hok a _ ha
  obtain ⟨ep, hat⟩ := D.dictAt
  have lk : kvs.length = vs.length := Paired.length kv
  refine PySem.W.kdl_call (PySem.W.kdl_values (knd := mixKind X.prog X.w) (kvs := vs) (ep := ep)) (I.ok.hd hc) ⟨view, hat⟩ (by omega) fun h' tk acc c hk hS hacc => ?_
  have e : acc.toList = vs.map (·.2) := PySem.W.kdl_vals_eq acc.toList (by rw [Array.length_toList]; exact hacc.1) fun j v e => hacc.2 j v (by rw [← Array.getElem?_toList]; exact e)
  refine ⟨.ref s.heap.objs.size, upd H s.heap.objs.size (.lst (kvs.map Prod.snd)), I.laid (t' := tk) hk (Nat.le_refl _) ⟨by rw [List.length_map]; exact z, acc.toList, c, by rw [e]; exact kv_snd kv, by rw [Array.toArray_toList]; exact hS⟩, rfl, q _ (I.hok.fresh (Nat.le_refl _))⟩
/-! sorted(d.items()), the keys texts, the values worths -/
def encI (e : Str × V × Wo) : PyData := .tuple [.str e.1, wd e.2.2]
def lower (a b : Str) : Prop := a.cps.toList < b.cps.toList
def rSortItK : List V → Hp → VK → Prop := fun vs H Q => ∃ (p a : Addr) (ps : List (Str × V × Wo)), vs = [.ref p] ∧ H p = some (itemsO p a) ∧ H a = some (.dK (ps.map fun e => (.inr e.1, e.2.1))) ∧ (∀ e ∈ ps, WoAt H e.2.1 e.2.2) ∧ ps.length ≤ 1000 ∧
  ∀ (H' : Hp) (l : Addr) (zs : List (Addr × Str × V × Wo)), Same H H' → H l = none → (zs.map (·.2)).Perm ps → (zs.map (·.2)).Pairwise (fun e f => lower e.1 f.1) → (∀ z ∈ zs, H z.1 = none) → H' l = some (.lst (zs.map fun z => .ref z.1)) →
    (∀ z ∈ zs, H' z.1 = some (.tup [.str z.2.1, z.2.2.1])) → Q (.ref l) H'
theorem pairs_get {prog : Program} {w : World} {K : Type} [DecidableEq K] {knd : PySem.KeyKind prog w K} : ∀ {es : List DictEntry} {kvs : List (K × Value)}, Pairs knd es kvs → ∀ {j : Nat} {e : DictEntry}, es[j]? = some e → ∃ kv, kvs[j]? = some kv ∧ knd.is kv.1 e.key = true ∧ e.val = kv.2
  | _, _, .nil, _, _, h => by cases h
  | _, _, .cons a b _, 0, _, h => by
    cases h
    exact ⟨_, rfl, a, b⟩
  | _, _, .cons _ _ t, j + 1, _, h => pairs_get (j := j) t (by simpa using h)
theorem each_zip {α β : Type} (f : α → Value) : ∀ (as : List α) (ps : List β), as.length = ps.length → PySem.W.EachIs (fun (v : Value) (b : α × β) => v = f b.1) (as.map f) (as.zip ps)
  | [], [], _ => .nil
  | a :: as, p :: ps, h => .cons rfl (each_zip f as ps (by simpa using h))
  | [], _ :: _, h => by cases h
  | _ :: _, [], h => by cases h
theorem each_at {α β : Type} {R : α → β → Prop} : ∀ {as : List α} {bs : List β}, as.length = bs.length → (∀ (j : Nat) (a : α) (b : β), as[j]? = some a → bs[j]? = some b → R a b) → PySem.W.EachIs R as bs
  | [], [], _, _ => .nil
  | a :: as, b :: bs, h, k => .cons (k 0 a b rfl rfl) (each_at (by simpa using h) fun j x y h1 h2 => k (j + 1) x y (by simpa using h1) (by simpa using h2))
  | [], _ :: _, h, _ => by cases h
  | _ :: _, [], h, _ => by cases h
theorem each_eq {α β : Type} (f : β → α) : ∀ {as : List α} {bs : List β}, PySem.W.EachIs (fun a b => a = f b) as bs → as = bs.map f
  | _, _, .nil => rfl
  | _, _, .cons h t => by rw [h, each_eq f t]; rfl
theorem str_lt_irrefl {a b : Str} (h : ¬ lower b a) (n : a ≠ b) : lower a b := by
  unfold lower at h ⊢
  by_cases l : a.cps.toList < b.cps.toList
  · exact l
  · exact absurd (PySem.W.str_of_cps (List.le_antisymm (List.not_lt.mp h) (List.not_lt.mp l))) n
theorem cr_sortedItK (hc : X.calm = true) (hu : X.A.units + 64 < cLine) : CallR X (.builtin "sorted") rSortItK := by
  intro pins s σ H xs us Q I r h
  obtain ⟨p, a, ps, rfl, hp, ha, hw, h1000, q⟩ := h
  obtain rfl := Vals.ref1 r
  have view : s.heap.IsItemsView p a := (show ObjOk X.prog X.w H s.heap p (itemsO p a) from I.hok p _ hp).1
  obtain ⟨z, hd, vs, kv, o, es, ep, ho, hx, hdat, hkk, hpr, hnd⟩ := I.hok a _ ha
  have l1 : ps.length = vs.length := by
    have := Paired.length kv
    rwa [List.length_map] at this
  have l2 : es.size = vs.length := by rw [← Array.length_toList]; exact hpr.length
  have nd0 : (ps.map (·.1)).Nodup := by
    have e : (ps.map fun e => (Sum.inr e.1 : L2.Key)) = vs.map (·.1) := by
      have : ∀ {xs : List (L2.Key × V)} {ys : List (L2.Key × Value)}, KV xs ys → xs.map (·.1) = ys.map (·.1) := by
        intro xs ys h
        induction h with
        | nil => rfl
        | cons h _ ih => rw [List.map_cons, List.map_cons, h.1, ih]
      have := this kv
      rwa [List.map_map] at this
    rw [← e] at hnd
    rw [List.nodup_iff_pairwise_ne, List.pairwise_map] at hnd ⊢
    exact hnd.imp fun h e => h (by rw [e])
  refine DT.sortedI (es := es) (ep := ep) (I.ok.hd hc) view ⟨o, ho, hx, hdat⟩ (by rw [sizeLine_eq]; omega) fun h' tk as hk hlt hl hG => ?_
  have lak : as.length = ps.length := by omega
  have nd : as.Nodup := List.Pairwise.imp (fun h => Nat.ne_of_lt h) hG.rise
  have pr : ∀ (j : Nat) (b : Addr), as[j]? = some b → ∃ (e : Str × V × Wo) (t : Tok) (u : Value), ps[j]? = some e ∧ RelV e.2.1 u ∧ h'.get? b = some { cls := .type "tuple", data := .seq #[Value.str e.1 t, u] } := by
    intro j b hj
    obtain ⟨en, he, hg⟩ := hG.pairs j b hj
    obtain ⟨kvj, h1, h2, h3⟩ := pairs_get hpr (by rw [Array.getElem?_toList]; exact he)
    obtain ⟨pk, h4, h5, h6⟩ := pget kv h1
    rw [List.getElem?_map] at h4
    obtain ⟨e, h7, rfl⟩ := Option.map_eq_some_iff.mp h4
    have r1 : RelV (kV (Sum.inr e.1)) en.key := relV_key (by have := h2; rw [← h5] at this; exact this)
    obtain ⟨t, rt⟩ := r1
    exact ⟨e, t, en.val, h7, by rw [h3]; exact h6, by rw [hg, rt]⟩
  have hob : (h'.push { cls := .type "list", data := .seq (as.map Value.ref).toArray }).get? h'.objs.size = some (seqObj "list" (as.map Value.ref).toArray 0) := Heap.get?_push_size _ rfl
  have kb : ∀ b o, s.heap.get? b = some o → (h'.push { cls := .type "list", data := .seq (as.map Value.ref).toArray }).get? b = some o := fun b o e => Heap.get?_push_of_some _ (hk b o e)
  have ne0 : ∀ b o, h'.get? b = some o → b ≠ h'.objs.size := fun b o e => Nat.ne_of_lt (Heap.lt_size e)
  generalize hh2 : h'.push { cls := .type "list", data := .seq (as.map Value.ref).toArray } = h2 at hob kb ⊢
  have ka : ∀ b o, h'.get? b = some o → h2.get? b = some o := fun b o e => by rw [← hh2]; exact Heap.get?_push_of_some _ e
  have lz : (as.zip ps).length = ps.length := by rw [List.length_zip]; omega
  refine PySem.W.list_sort_data (s := { s with heap := h2, toks := tk }) (R := fun v (b : Addr × Str × V × Wo) => v = Value.ref b.1) (enc := fun b => encI b.2) (bs := as.zip ps) hob (each_zip Value.ref as ps lak)
    (each_at (by rw [List.length_map, lz, lak]) fun j v b hv hb => ?_) (PySem.W.AllAlike.of fun b b' => by simp [PySem.W.alike, PySem.W.alikeAll, encI, wd]) (PySem.W.Sortable.tuples fun b => ⟨_, _, rfl⟩) (by rw [lz]; rw [sizeLine_eq]; omega)
    (fun b _ => ?_) fun out hlo eo => ?_
  · obtain ⟨hb1, hb2⟩ := List.getElem?_zip_eq_some.mp hb
    rw [List.getElem?_map, hb1] at hv
    cases hv
    obtain ⟨e, t, u, he, ru, hg⟩ := pr j _ hb1
    rw [hb2] at he
    cases he
    obtain ⟨ta, et, eh, _⟩ := hw b.2 (List.mem_of_getElem? hb2)
    rw [et] at ru
    obtain rfl : u = Value.ref ta := ru
    obtain ⟨_, its, rv, ot, hot, hct, nt, hdt⟩ := (show ObjOk X.prog X.w H s.heap ta (.tup (wv b.2.2.2)) from I.hok ta _ eh)
    obtain ⟨t1, t2, rfl⟩ : ∃ t1 t2, its = [Value.str b.2.2.2.1 t1, Value.int b.2.2.2.2 t2] := by
      cases rv with
      | cons r1 r2 =>
        cases r2 with
        | cons r3 r4 =>
          cases r4
          obtain ⟨t1, rfl⟩ := r1
          obtain ⟨t2, rfl⟩ := r3
          exact ⟨t1, t2, rfl⟩
    refine ⟨[], ?_, List.not_mem_nil⟩
    have r3 : Reads h2 (.ref ta) (wd b.2.2.2) [] := .tuple (kb _ _ hot) hct hdt (.cons (as := []) (bs := []) (.str _ _) (.cons (as := []) (bs := []) (.int _ _) .nil))
    exact .tuple (ka _ _ hg) rfl rfl (.cons (as := []) (bs := []) (.str _ _) (.cons (as := []) (bs := []) r3 .nil))
  · have hd : (encI b.2).depth = 2 := by simp [encI, wd, PyData.depth, PyData.depthAll]
    show X.A.units + 1 + 1 + (encI b.2).depth < cLine
    omega
  · have eo' := each_eq (fun b : Addr × Str × V × Wo => Value.ref b.1) eo
    have hTL : PySem.W.TotalLe (PySem.W.dataLe false fun b : Addr × Str × V × Wo => encI b.2) := PySem.W.sortLe_total _ _ _
    have pz := List.mergeSort_perm (as.zip ps) (PySem.W.dataLe false fun b : Addr × Str × V × Wo => encI b.2)
    have oz := PySem.W.sort_pairwise hTL (as.zip ps)
    generalize (as.zip ps).mergeSort (PySem.W.dataLe false fun b : Addr × Str × V × Wo => encI b.2) = zs at eo' pz oz
    have idx : ∀ z ∈ zs, ∃ j : Nat, as[j]? = some z.1 ∧ ps[j]? = some z.2 := by
      intro z' hz'
      obtain ⟨j, hj⟩ := List.mem_iff_getElem?.mp (pz.mem_iff.mp hz')
      exact ⟨j, List.getElem?_zip_eq_some.mp hj⟩
    have hperm : (zs.map (·.2)).Perm ps := by
      have e := pz.map (·.2)
      have m2 : (as.zip ps).map (·.2) = ps := List.map_snd_zip (by rw [lak]; exact Nat.le_refl _)
      rw [m2] at e
      exact e
    have hsort : (zs.map (·.2)).Pairwise (fun e f => lower e.1 f.1) := by
      have nn : ((zs.map (·.2)).map (·.1)).Nodup := (hperm.map (·.1)).nodup_iff.mpr nd0
      rw [List.map_map, List.nodup_iff_pairwise_ne, List.pairwise_map] at nn
      rw [List.pairwise_map]
      refine (oz.and nn).imp fun {x y} h => ?_
      obtain ⟨h1, h2⟩ := h
      refine str_lt_irrefl (fun hl => ?_) h2
      rw [PySem.W.dataLe_eq] at h1
      have h3 : PySem.W.dataLt (encI y.2) (encI x.2) = false := by simpa using h1
      have h4 : PySem.W.dataLt (.str y.2.1) (.str x.2.1) = false := by
        have e : PyData.eqv (.str y.2.1) (.str x.2.1) = false := by
          simp [PyData.eqv]
          exact fun e => h2 e.symm
        unfold encI at h3
        rw [PySem.W.dataLt_pair (by simp [PySem.W.alike]) (by simp [PySem.W.alike, PySem.W.alikeAll, wd]), e] at h3
        simpa using h3
      have h5 : (!PySem.W.dataLt (.str y.2.1) (.str x.2.1)) = decide (x.2.1.cps.toList ≤ y.2.1.cps.toList) := by
        have := congrFun (congrFun (PySem.W.dataLe_str (β := Str) id) x.2.1) y.2.1
        rw [PySem.W.dataLe_eq] at this
        exact this
      rw [h4] at h5
      have h6 : x.2.1.cps.toList ≤ y.2.1.cps.toList := of_decide_eq_true h5.symm
      exact List.not_lt.mpr h6 hl
    have kF : ∀ b o, b ≠ h'.objs.size → h2.get? b = some o → (sortedHeap h2 h'.objs.size (as.map Value.ref) out.toArray).get? b = some o := fun b o hb e => (PyProof.Rows.sortedHeap_old hb (Heap.lt_size e)).trans e
    have kS : ∀ b o, s.heap.get? b = some o → (sortedHeap h2 h'.objs.size (as.map Value.ref) out.toArray).get? b = some o := fun b o e => kF b o (ne0 _ _ (hk b o e)) (kb b o e)
    obtain ⟨eF, heF⟩ := PyProof.Rows.sortedHeap_at (vs := as.map Value.ref) (out := out.toArray) hob
    have I1 : Inv X pins σ H { s with heap := sortedHeap h2 h'.objs.size (as.map Value.ref) out.toArray, toks := tk } := I.kept (t' := tk) kS
    have hn0 : H h'.objs.size = none := I.hok.fresh (Nat.le_of_lt hlt)
    have hlen : (zs.map fun z => V.ref z.1).length ≤ sizeLine := by
      have e := hperm.length_eq
      rw [List.length_map] at e
      rw [List.length_map, sizeLine_eq]
      omega
    have rv : Vals (zs.map fun z => V.ref z.1) out.toArray.toList := by
      rw [eo']
      exact vals_maps (fun z : Addr × Str × V × Wo => V.ref z.1) (fun z => Value.ref z.1) zs fun _ _ => rfl
    have I2 : Inv X pins σ (upd H h'.objs.size (.lst (zs.map fun z => V.ref z.1))) { s with heap := sortedHeap h2 h'.objs.size (as.map Value.ref) out.toArray, toks := tk } :=
      I1.take (h' := sortedHeap h2 h'.objs.size (as.map Value.ref) out.toArray) (t' := tk) (fun b ob _ e => e) (I.fpOk (Nat.le_of_lt hlt) hn0) ⟨hlen, out.toArray.toList, eF, rv, heF⟩
    obtain ⟨H2, I3, g, qt⟩ := takeT (P := fun b vs => ∃ (j : Nat) (e : Str × V × Wo), as[j]? = some b ∧ ps[j]? = some e ∧ vs = [.str e.1, e.2.1]) I as _ I2 nd fun b hb => by
      obtain ⟨j, hj⟩ := List.mem_iff_getElem?.mp hb
      obtain ⟨e, t, u, he, ru, hg⟩ := pr j b hj
      have hbl : s.heap.objs.size ≤ b := Nat.le_of_lt (hG.above b hb)
      refine ⟨hbl, ?_, [.str e.1, e.2.1], ⟨j, e, hj, he, rfl⟩, fun H3 => ⟨(by rw [sizeLine_eq]; show 2 ≤ 16777216; omega), [Value.str e.1 t, u], .cons ⟨t, rfl⟩ (.cons ru .nil), ⟨_, kF _ _ (ne0 _ _ hg) (ka _ _ hg), rfl, 0, rfl⟩⟩⟩
      rw [upd_ne (ne0 _ _ hg)]
      exact I.hok.fresh hbl
    have gr : ∀ b o, H b = some o → H2 b = some o := fun b o e => g b o (by rw [upd_ne (ne_of_none e hn0)]; exact e)
    refine ⟨.ref h'.objs.size, H2, I3, rfl, q H2 h'.objs.size zs gr hn0 hperm hsort (fun z' hz' => ?_) (g _ _ upd_same) fun z' hz' => ?_⟩
    · obtain ⟨i, i1, i2⟩ := idx z' hz'
      exact I.hok.fresh (Nat.le_of_lt (hG.above _ (List.mem_of_getElem? i1)))
    · obtain ⟨i, i1, i2⟩ := idx z' hz'
      obtain ⟨vs, ⟨j, e, j1, j2, ev⟩, hH⟩ := qt z'.1 (List.mem_of_getElem? i1)
      have eij : i = j := (List.getElem?_inj (List.getElem?_eq_some_iff.mp i1).1 nd).mp (i1.trans j1.symm)
      subst eij
      have ee : e = z'.2 := Option.some.inj (j2.symm.trans i2)
      rw [ev, ee] at hH
      exact hH
theorem lower_of {a b c d : PyData} {x y : Str} (n : x ≠ y) (ha : PySem.W.alike d c = true) (h : PySem.W.dataLt (.tuple [.str y, d]) (.tuple [.str x, c]) = false) : lower x y := by
  refine str_lt_irrefl (fun hl => ?_) n
  have e : PyData.eqv (.str y) (.str x) = false := by
    simp [PyData.eqv]
    exact fun e => n e.symm
  rw [PySem.W.dataLt_pair (by simp [PySem.W.alike]) ha, e] at h
  have h4 : PySem.W.dataLt (.str y) (.str x) = false := by simpa using h
  have h5 : (!PySem.W.dataLt (.str y) (.str x)) = decide (x.cps.toList ≤ y.cps.toList) := by
    have := congrFun (congrFun (PySem.W.dataLe_str (β := Str) id) x) y
    rw [PySem.W.dataLe_eq] at this
    exact this
  rw [h4] at h5
  exact List.not_lt.mpr (of_decide_eq_true h5.symm) hl
def rSortPr : List V → Hp → VK → Prop := fun vs H Q => ∃ (a : Addr) (xs : List V) (ls : List (Str × Wo)), vs = [.ref a] ∧ H a = some (.lst xs) ∧ Ats H xs ls ∧ (ls.map (·.1)).Nodup ∧
  ∀ (ys : List V) (ls' : List (Str × Wo)) (p : Addr), ls'.Perm ls → ls'.Pairwise (fun e f => lower e.1 f.1) → H p = none → Ats H ys ls' → Q (.ref p) (upd H p (.lst ys))
theorem cr_sortedPr (hu : X.A.units + 64 < cLine) : CallR X (.builtin "sorted") rSortPr := by
  intro pins s σ H vs us Q I r h
  obtain ⟨a, xs, ls, rfl, ha, hr, nd, q⟩ := h
  obtain ⟨its, rv, hl, hz⟩ := I.list (.inl (.inl ha))
  rw [Vals.ref1 r]
  have e1 : xs.length = ls.length := hr.len
  have lz : (xs.zip ls).length = xs.length := by rw [List.length_zip]; omega
  have eI : PySem.W.EachIs (fun u (b : V × Str × Wo) => RelV b.1 u) its (xs.zip ls) := each_at (by rw [lz, rv.length]) fun j u b hu hb => by
    obtain ⟨hb1, hb2⟩ := List.getElem?_zip_eq_some.mp hb
    obtain ⟨u', e, ru⟩ := rv.get hb1
    rw [hu] at e
    cases e
    exact ru
  have eR : PySem.W.EachIs (fun u (b : V × Str × Wo) => ∃ as, Reads s.heap u (Dat.enc b.2) as) its (xs.zip ls) := each_at (by rw [lz, rv.length]) fun j u b hu hb => by
    obtain ⟨hb1, hb2⟩ := List.getElem?_zip_eq_some.mp hb
    obtain ⟨u', e, ru⟩ := rv.get hb1
    rw [hu] at e
    cases e
    obtain ⟨c, ec, hc⟩ := hr.get hb1
    rw [hb2] at ec
    cases ec
    exact Dp.reads I _ _ _ (Dat.dp (K := X.K) hc) ru
  refine PySem.W.sorted_data (bs := xs.zip ls) (enc := fun b => Dat.enc b.2) (R := fun u (b : V × Str × Wo) => RelV b.1 u) hl.isList eI eR (PySem.W.AllAlike.of fun b b' => by simp [PySem.W.alike, PySem.W.alikeAll, Dat.enc]) (PySem.W.Sortable.tuples fun b => ⟨_, _, rfl⟩) (by rw [lz]; exact hz) (fun b _ => ?_) fun out hlo eo => ?_
  · have hd : (Dat.enc b.2 : PyData).depth = 2 := by simp [Dat.enc, PyData.depth, PyData.depthAll]
    omega
  · have hTL : PySem.W.TotalLe (PySem.W.dataLe false fun b : V × Str × Wo => Dat.enc b.2) := PySem.W.sortLe_total _ _ _
    have pz := List.mergeSort_perm (xs.zip ls) (PySem.W.dataLe false fun b : V × Str × Wo => Dat.enc b.2)
    have oz := PySem.W.sort_pairwise hTL (xs.zip ls)
    generalize (xs.zip ls).mergeSort (PySem.W.dataLe false fun b : V × Str × Wo => Dat.enc b.2) = zs at eo pz oz
    have hperm : (zs.map (·.2)).Perm ls := by
      have e := pz.map (·.2)
      rw [List.map_snd_zip (by omega)] at e
      exact e
    have hsort : (zs.map (·.2)).Pairwise (fun e f => lower e.1 f.1) := by
      have nn : ((zs.map (·.2)).map (·.1)).Nodup := (hperm.map (·.1)).nodup_iff.mpr nd
      rw [List.map_map, List.nodup_iff_pairwise_ne, List.pairwise_map] at nn
      rw [List.pairwise_map]
      refine (oz.and nn).imp fun {x y} h => ?_
      obtain ⟨h1, h2⟩ := h
      rw [PySem.W.dataLe_eq] at h1
      have h3 : PySem.W.dataLt (Dat.enc y.2) (Dat.enc x.2) = false := by simpa using h1
      exact lower_of (a := .none) (b := .none) h2 (by simp [PySem.W.alike, PySem.W.alikeAll, Dat.enc]) h3
    have hv : Vals (zs.map (·.1)) out := by
      clear hlo oz hsort hperm pz
      induction eo with
      | nil => exact .nil
      | cons h _ ih => exact .cons h ih
    have hats : Ats H (zs.map (·.1)) (zs.map (·.2)) := by
      have m : ∀ z ∈ zs, Dat.At H z.1 z.2 := fun z hz => by
        obtain ⟨j, hj⟩ := List.mem_iff_getElem?.mp (pz.mem_iff.mp hz)
        obtain ⟨hb1, hb2⟩ := List.getElem?_zip_eq_some.mp hj
        obtain ⟨c, ec, hc⟩ := hr.get hb1
        rw [hb2] at ec
        cases ec
        exact hc
      clear hv hlo oz hsort hperm pz eo
      induction zs with
      | nil => exact .nil
      | cons z r ih => exact .cons (m z List.mem_cons_self) (ih fun y hy => m y (List.mem_cons_of_mem _ hy))
    obtain ⟨ep, he'⟩ := PyProof.Rows.sortedAll_at s.heap its out.toArray
    have hlen : (zs.map (·.1)).length ≤ sizeLine := by
      have := hperm.length_eq
      rw [List.length_map] at this ⊢
      omega
    exact ⟨.ref _, upd H (s.heap.objs.size + 1) (.lst (zs.map (·.1))), I.laid (t' := s.toks) (fun _ _ => PyProof.Rows.sortedAll_old) (Nat.le_succ _) ⟨hlen, out, ep, hv, he'⟩, rfl, q _ _ _ hperm hsort (I.hok.fresh (Nat.le_succ _)) hats⟩
end
end G

namespace G
open PySem L2
open Dat (At enc)
/-! ### dicts of data -/
class DKey (κ : Type) [Dat κ] [DecidableEq κ] where
  κ' : Type
  dec : DecidableEq κ'
  kf : κ → κ'
  kinj : ∀ {a b : κ}, kf a = kf b → a = b
  ho : List (κ' × V) → HO
  noT : ∀ {kvs : List (κ' × V)} {xs : List V}, ho kvs ≠ .tup xs
  get : ∀ {H : Hp} {d : Addr} {kvs : List (κ' × V)} {y : V} {k : κ}, Rd H d (ho kvs) → At H y k → DGet H d y (valV kvs (kf k))
  put : ∀ {H : Hp} {d : Addr} {kvs : List (κ' × V)} {y v : V} {k : κ}, H d = some (ho kvs) → At H y k → kvs.length < sizeLine → DPut H d y v (upd H d (ho (putK kvs (kf k) v)))
instance {κ : Type} [Dat κ] [DecidableEq κ] [DKey κ] : DecidableEq (DKey.κ' κ) := DKey.dec
instance : DKey Int where
  κ' := Key
  dec := inferInstance
  kf := .inl
  kinj := fun h => Sum.inl.inj h
  ho := .dK
  noT := fun h => by cases h
  get := fun {H d kvs y k} h e => by
    subst e
    exact .inl ⟨kvs, .inl k, h, rfl, rfl⟩
  put := fun {H d kvs y v k} h e hl => by
    subst e
    exact DPut.k (k := .inl k) h hl
instance : DKey Str where
  κ' := Key
  dec := inferInstance
  kf := .inr
  kinj := fun h => Sum.inr.inj h
  ho := .dK
  noT := fun h => by cases h
  get := fun {H d kvs y k} h e => by
    obtain ⟨rfl, _⟩ := e
    exact .inl ⟨kvs, .inr k, h, rfl, rfl⟩
  put := fun {H d kvs y v k} h e hl => by
    obtain ⟨rfl, _⟩ := e
    exact DPut.k (k := .inr k) h hl
instance : DKey (Str × Int) where
  κ' := List Key
  dec := inferInstance
  kf := wk
  kinj := wk_inj
  ho := .dT
  noT := fun h => by cases h
  get := fun {H d kvs y k} h e => by
    obtain ⟨t, rfl, e, _⟩ := at_wo.mp e
    exact .inr ⟨kvs, wk k, t, h, rfl, e, rfl⟩
  put := fun {H d kvs y v k} h e hl => by
    obtain ⟨t, rfl, e, _⟩ := at_wo.mp e
    exact DPut.t (k := wk k) h e hl
/-- put in its place, or at the end -/
def putA {κ α : Type} [DecidableEq κ] (l : List (κ × α)) (k : κ) (a : α) : List (κ × α) := if k ∈ l.map (·.1) then l.map (fun e => if e.1 = k then (e.1, a) else e) else l ++ [(k, a)]
def getA {κ α : Type} [DecidableEq κ] (l : List (κ × α)) (k : κ) : Option α := (l.find? fun e => decide (e.1 = k)).map (·.2)
section
variable {κ α : Type} [DecidableEq κ] {l : List (κ × α)} {k j : κ} {a : α}
theorem getA_pos {p : κ × α} (e : p.1 = k) : getA (p :: l) k = some p.2 := by simp [getA, e]
theorem getA_neg {p : κ × α} (e : ¬ p.1 = k) : getA (p :: l) k = getA l k := by simp [getA, e]
theorem getA_none : getA l k = none ↔ k ∉ l.map (·.1) := by
  induction l with
  | nil => simp [getA]
  | cons p r ih =>
    by_cases e : p.1 = k
    · rw [getA_pos e]
      simp [e]
    · rw [getA_neg e, ih]
      simp [Ne.symm e]
theorem getA_isSome [dc : Decidable (k ∈ l.map (·.1))] : (getA l k).isSome = decide (k ∈ l.map (·.1)) := by
  by_cases m : k ∈ l.map (·.1)
  · rw [decide_eq_true m]
    cases h : getA l k with
    | none => exact absurd m (getA_none.mp h)
    | some _ => rfl
  · rw [decide_eq_false m, getA_none.mpr m]
    rfl
theorem getA_mem (h : getA l k = some a) : (k, a) ∈ l := by
  induction l with
  | nil => simp [getA] at h
  | cons p r ih =>
    by_cases e : p.1 = k
    · rw [getA_pos e] at h
      cases h
      rw [← e]
      exact List.mem_cons_self
    · rw [getA_neg e] at h
      exact List.mem_cons_of_mem _ (ih h)
theorem getA_of (nd : (l.map (·.1)).Nodup) (h : (k, a) ∈ l) : getA l k = some a := by
  induction l with
  | nil => cases h
  | cons p r ih =>
    rw [List.map_cons, List.nodup_cons] at nd
    rcases List.mem_cons.mp h with e | h
    · subst e
      exact getA_pos rfl
    · by_cases e : p.1 = k
      · exact absurd (List.mem_map.mpr ⟨_, h, e.symm⟩) nd.1
      · rw [getA_neg e]
        exact ih nd.2 h
theorem putA_keys : (putA l k a).map (·.1) = if k ∈ l.map (·.1) then l.map (·.1) else l.map (·.1) ++ [k] := by
  unfold putA
  split
  · rw [List.map_map]
    refine List.map_congr_left fun e _ => ?_
    show (if e.1 = k then (e.1, a) else e).1 = e.1
    split <;> rfl
  · rw [List.map_append]
    rfl
theorem putA_nodup (nd : (l.map (·.1)).Nodup) : ((putA l k a).map (·.1)).Nodup := by
  rw [putA_keys]
  split
  · exact nd
  · rename_i n
    rw [List.nodup_append]
    exact ⟨nd, by simp, fun x hx y hy e => n (by rw [List.mem_singleton] at hy; subst hy; subst e; exact hx)⟩
theorem putA_mem_keys : j ∈ (putA l k a).map (·.1) ↔ j = k ∨ j ∈ l.map (·.1) := by
  rw [putA_keys]
  split
  · rename_i m
    exact ⟨.inr, fun h => h.elim (fun e => e ▸ m) id⟩
  · rw [List.mem_append, List.mem_singleton]
    exact ⟨fun h => h.symm, fun h => h.symm⟩
theorem putA_len : (putA l k a).length ≤ l.length + 1 := by
  unfold putA
  split
  · rw [List.length_map]; omega
  · simp
theorem getA_map_put : ∀ l : List (κ × α), getA (l.map fun e => if e.1 = k then (e.1, a) else e) j = if j = k then (getA l k).map (fun _ => a) else getA l j
  | [] => by simp [getA]
  | p :: r => by
    rw [List.map_cons]
    by_cases e : p.1 = k
    · rw [if_pos e]
      by_cases ej : j = k
      · rw [if_pos ej, getA_pos (by rw [ej]; exact e), getA_pos e]
        rfl
      · rw [if_neg ej, getA_neg (p := (p.1, a)) (fun z => ej (z.symm.trans e)), getA_neg (fun z => ej (z.symm.trans e)), getA_map_put r, if_neg ej]
    · rw [if_neg e]
      by_cases z : p.1 = j
      · rw [getA_pos z, if_neg (fun q => e (z.trans q)), getA_pos z]
      · rw [getA_neg z, getA_map_put r, getA_neg e]
        split
        · rfl
        · rw [getA_neg z]
theorem getA_app_none (h : k ∉ l.map (·.1)) : getA (l ++ [(k, a)]) j = if j = k then some a else getA l j := by
  induction l with
  | nil =>
    by_cases e : j = k
    · rw [if_pos e]
      exact getA_pos e.symm
    · rw [if_neg e]
      exact getA_neg (Ne.symm e)
  | cons p r ih =>
    have ih := ih fun m => h (List.mem_cons_of_mem _ m)
    have nk : p.1 ≠ k := fun e => h (by rw [← e]; exact List.mem_cons_self)
    rw [List.cons_append]
    by_cases z : p.1 = j
    · rw [getA_pos z, getA_pos z, if_neg (fun q => nk (z.trans q))]
    · rw [getA_neg z, getA_neg z, ih]
theorem getA_put : getA (putA l k a) j = if j = k then some a else getA l j := by
  unfold putA
  split
  · rename_i m
    rw [getA_map_put]
    split
    · cases h : getA l k with
      | none => exact absurd m (getA_none.mp h)
      | some _ => rfl
    · rfl
  · rename_i m
    exact getA_app_none m
theorem putA_new (h : k ∉ l.map (·.1)) : putA l k a = l ++ [(k, a)] := if_neg h
end
section
variable {κ α : Type} [Dat κ] [DecidableEq κ] [DKey κ] [Dat α] {K : PySem.W.Frag} {H H' H1 : Hp} {ns ms : List Addr} {d : Addr} {l : List (κ × α)} {k : κ} {a : α} {x y v : V} {Q : VK} {o : HO}
abbrev DR (ns : List Addr) (H : Hp) : List (DKey.κ' κ × V) → List (κ × α) → Prop := Paired fun kv e => kv.1 = DKey.kf e.1 ∧ At (del ns H) kv.2 e.2
/-- at d stands a dict of l; Dcr: it can be read -/
def Dc (ns : List Addr) (H : Hp) (d : Addr) (l : List (κ × α)) : Prop := ∃ kvs : List (DKey.κ' κ × V), H d = some (DKey.ho (κ := κ) kvs) ∧ DR ns H kvs l
def Dcr (ns : List Addr) (H : Hp) (d : Addr) (l : List (κ × α)) : Prop := ∃ kvs : List (DKey.κ' κ × V), Rd H d (DKey.ho (κ := κ) kvs) ∧ DR ns H kvs l
theorem Dc.rd (h : Dc ns H d l) : Dcr ns H d l := by
  obtain ⟨kvs, e, r⟩ := h
  exact ⟨kvs, .inl e, r⟩
theorem DR.fr {kvs : List (DKey.κ' κ × V)} (f : Fr ns H ms H') (h : DR ns H kvs l) : DR ms H' kvs l := Paired.mapP h fun _ _ h => ⟨h.1, f.at_ h.2⟩
theorem Dc.fr (f : Fr ns H ms H') (e : ∀ o, H d = some o → H' d = some o) (h : Dc ns H d l) : Dc ms H' d l := by
  obtain ⟨kvs, q, r⟩ := h
  exact ⟨kvs, e _ q, r.fr f⟩
theorem Dcr.fr (f : Fr ns H ms H') (e : ∀ o, H d = some o → H' d = some o) (h : Dcr ns H d l) : Dcr ms H' d l := by
  obtain ⟨kvs, q, r⟩ := h
  exact ⟨kvs, q.elim (fun q => .inl (e _ q)) (fun ⟨o, q⟩ => .inr ⟨o, e _ q⟩), r.fr f⟩
theorem Dc.lv (h : Dc ns H d l) : Lv H d := by
  obtain ⟨kvs, q, r⟩ := h
  exact ⟨_, q, fun xs => DKey.noT⟩
theorem DR.look {kvs : List (DKey.κ' κ × V)} (h : DR ns H kvs l) (k : κ) : (valV kvs (DKey.kf k) = none ∧ getA l k = none) ∨ ∃ v a, valV kvs (DKey.kf k) = some v ∧ getA l k = some a ∧ At (del ns H) v a := by
  induction h with
  | nil => exact .inl ⟨rfl, rfl⟩
  | @cons kv e kvs l h _ ih =>
    by_cases z : e.1 = k
    · exact .inr ⟨_, _, valV_pos (by rw [h.1, z]), getA_pos z, h.2⟩
    · rw [valV_neg (fun q => z (DKey.kinj (h.1.symm.trans q))), getA_neg z]
      exact ih
theorem DR.keys {kvs : List (DKey.κ' κ × V)} (h : DR ns H kvs l) : kvs.map (·.1) = l.map fun e => DKey.kf e.1 := by
  induction h with
  | nil => rfl
  | cons h _ ih => rw [List.map_cons, List.map_cons, h.1, ih]
theorem DR.put {kvs : List (DKey.κ' κ × V)} (h : DR ns H kvs l) (g : At (del ns H) v a) (k : κ) : DR ns H (putK kvs (DKey.kf k) v) (putA l k a) := by
  have lk := h.look k
  unfold putK putA
  rw [valV_any]
  have app : ∀ {xs : List (DKey.κ' κ × V)} {ys : List (κ × α)}, DR ns H xs ys → DR ns H (xs ++ [(DKey.kf k, v)]) (ys ++ [(k, a)]) := by
    intro xs ys h
    induction h with
    | nil => exact .cons ⟨rfl, g⟩ .nil
    | cons h _ ih => exact .cons h ih
  have mp : ∀ {xs : List (DKey.κ' κ × V)} {ys : List (κ × α)}, DR ns H xs ys → DR ns H (xs.map fun kv => if kv.1 = DKey.kf k then (kv.1, v) else kv) (ys.map fun e => if e.1 = k then (e.1, a) else e) := by
    intro xs ys h
    induction h with
    | nil => exact .nil
    | @cons kv e _ _ h _ ih =>
      refine .cons ?_ ih
      show (if kv.1 = DKey.kf k then (kv.1, v) else kv).1 = DKey.kf (if e.1 = k then (e.1, a) else e).1 ∧ At (del ns H) (if kv.1 = DKey.kf k then (kv.1, v) else kv).2 (if e.1 = k then (e.1, a) else e).2
      by_cases z : e.1 = k
      · rw [if_pos (by rw [h.1, z]), if_pos z]
        exact ⟨h.1, g⟩
      · rw [if_neg (fun q => z (DKey.kinj (h.1.symm.trans q))), if_neg z]
        exact h
  rcases lk with ⟨e1, e2⟩ | ⟨u, b, e1, e2, _⟩
  · rw [e1, if_neg (by decide), if_neg (getA_none.mp e2)]
    exact app h
  · rw [e1, if_pos (show (some u).isSome = true from rfl), if_pos (by
      have := getA_isSome (l := l) (k := k)
      rw [e2] at this
      exact of_decide_eq_true this.symm)]
    exact mp h
theorem DR.len {kvs : List (DKey.κ' κ × V)} (h : DR ns H kvs l) : kvs.length = l.length := Paired.length h
theorem r_dinA [dc : Decidable (k ∈ l.map (·.1))] (h : Dcr ns H d l) (g : At H y k) (q : Q (.bl (decide (k ∈ l.map (·.1)))) H) : DInG (.ref d) y H Q := by
  obtain ⟨kvs, e, r⟩ := h
  refine ⟨d, _, rfl, DKey.get e g, ?_⟩
  rw [← getA_isSome] at q
  rcases r.look k with ⟨e1, e2⟩ | ⟨v, a, e1, e2, _⟩
  · rw [e1]
    rw [e2] at q
    exact q
  · rw [e1]
    rw [e2] at q
    exact q
theorem r_dninA [dc : Decidable (k ∈ l.map (·.1))] (h : Dcr ns H d l) (g : At H y k) (q : Q (.bl (!decide (k ∈ l.map (·.1)))) H) : DNinG (.ref d) y H Q := by
  obtain ⟨kvs, e, r⟩ := h
  refine ⟨d, _, rfl, DKey.get e g, ?_⟩
  rw [← getA_isSome] at q
  rcases r.look k with ⟨e1, e2⟩ | ⟨v, a, e1, e2, _⟩
  · rw [e1]
    rw [e2] at q
    exact q
  · rw [e1]
    rw [e2] at q
    exact q
theorem r_dgetA (h : Dcr ns H d l) (g : At H y k) (e : getA l k = some a) (q : ∀ x, At (del ns H) x a → Q x H) : DGetG (.ref d) y H Q := by
  obtain ⟨kvs, ed, r⟩ := h
  rcases r.look k with ⟨e1, e2⟩ | ⟨v, a', e1, e2, hv⟩
  · rw [e] at e2
    cases e2
  · rw [e] at e2
    cases e2
    exact ⟨d, v, rfl, e1 ▸ DKey.get ed g, q v hv⟩
theorem r_dputA {nx : Hp → Prop} (lv : Live ns H) (m : d ∈ ns) (h : Dc ns H d l) (g : At H y k) (gv : At (del ns H) v a) (hl : l.length < 100000) (q : ∀ H', Fr ns H ns H' → But d H H' → Dc ns H' d (putA l k a) → nx H') : ∃ b H4, V.ref d = .ref b ∧ DPut H b y v H4 ∧ nx H4 := by
  obtain ⟨kvs, e, r⟩ := h
  have f : Fr ns H ns (upd H d (DKey.ho (κ := κ) (putK kvs (DKey.kf k) v))) := .put lv m (fun _ => DKey.noT)
  exact ⟨d, _, rfl, DKey.put e g (szl (by rw [r.len]; exact hl)), q _ f But.upd ⟨_, upd_same, (r.put gv k).fr f⟩⟩
/-- a new dict without entries -/
theorem newD (lv : Live ns H) (h : H d = none) : Fr ns H (d :: ns) (upd H d (DKey.ho (κ := κ) [])) ∧ Dc (κ := κ) (α := α) (d :: ns) (upd H d (DKey.ho (κ := κ) [])) d [] := ⟨.mkO lv h (fun _ => DKey.noT), [], upd_same, .nil⟩
end
/-- the pairs of a dict of texts and worths -/
theorem Dc.pairs {ns : List Addr} {H : Hp} {d : Addr} {l : List (Str × Wo)} (h : Dc ns H d l) : ∃ ps : List (Str × V × Wo), H d = some (.dK (ps.map fun e => (.inr e.1, e.2.1))) ∧ ps.map (fun e => (e.1, e.2.2)) = l ∧ ∀ e ∈ ps, At (del ns H) e.2.1 e.2.2 := by
  obtain ⟨kvs, e, r⟩ := h
  have : ∀ {xs : List (Key × V)} {ys : List (Str × Wo)}, DR ns H xs ys → ∃ ps : List (Str × V × Wo), xs = ps.map (fun e => (.inr e.1, e.2.1)) ∧ ps.map (fun e => (e.1, e.2.2)) = ys ∧ ∀ e ∈ ps, At (del ns H) e.2.1 e.2.2 := by
    intro xs ys h
    induction h with
    | nil => exact ⟨[], rfl, rfl, fun e m => by cases m⟩
    | @cons kv e _ _ h _ ih =>
      obtain ⟨ps, h1, h2, h3⟩ := ih
      refine ⟨(e.1, kv.2, e.2) :: ps, ?_, by rw [List.map_cons, h2], fun f m => ?_⟩
      · rw [List.map_cons, ← h1, ← show kv.1 = .inr e.1 from h.1]
      · rcases List.mem_cons.mp m with rfl | m
        · exact h.2
        · exact h3 f m
  obtain ⟨ps, h1, h2, h3⟩ := this r
  exact ⟨ps, by rw [e, h1]; rfl, h2, h3⟩
/-- for k in d, d a dict of worths -/
theorem LK {α : Type} [Dat α] {K : PySem.W.Frag} {ns : List Addr} {H : Hp} {d : Addr} {l : List (Wo × α)} {σ : L2.St} {g : TG} {tb : TS} {nx : L2.St → Hp → Prop} {rt : VK} {bk ct : L2.St → Hp → Prop} {te : TE} (lv : Live ns H) (m : d ∈ ns) (h : Dc ns H d l) (ok : ∀ e ∈ l, PyData.strOk e.1.1 = true) (hte : ∀ {H1 : Hp} {R : VK}, R (.ref d) H1 → te σ H1 R)
    (Pv : Hp → Nat → L2.St → Hp → Prop) (h0 : ∀ H1, Fr ns H ns H1 → But d H H1 → Dcr ns H1 d l → Pv H1 0 σ H1) (hF : ∀ H1 i σ H', Pv H1 i σ H' → Fr ns H1 ns H' ∧ H' d = H1 d)
    (hs : ∀ H1 i e x σ H' (rt2 : VK) (nx2 : L2.St → Hp → Prop), Dcr ns H1 d l → Fr ns H ns H1 → But d H H1 → (∀ v H', Fr ns H1 ns H' → H' d = H1 d → (∀ H2, Fr ns H' ns H2 → But d H' H2 → H2 d = H d → Dc ns H2 d l → rt v H2) → rt2 v H') → l[i]? = some e → At (del ns H') x e.1 → Pv H1 i σ H' → g x σ H' fun σ2 H2 => tb ⟨Pv H1 (i + 1), rt2, nx2, Pv H1 (i + 1)⟩ σ2 H2)
    (hd : ∀ H1 σ H' H2, Pv H1 l.length σ H' → Fr ns H ns H1 → But d H H1 → Fr ns H' ns H2 → But d H' H2 → H2 d = H d → Dc ns H2 d l → nx σ H2) : tLock (tFor (iKeys te) g tb) ⟨nx, rt, bk, ct⟩ σ H := by
  obtain ⟨kvs, e, r⟩ := h
  refine ⟨d, _, e, trivial, fun od => ?_⟩
  have f1 : Fr ns H ns (upd H d (.frz od (.dT kvs))) := .put lv m (fun _ e => by cases e)
  have b1 : But d H (upd H d (.frz od (.dT kvs))) := But.upd
  have e1 : (upd H d (.frz od (.dT kvs))) d = some (.frz od (.dT kvs)) := upd_same
  have r1 := r.fr f1
  generalize upd H d (.frz od (.dT kvs)) = H1 at f1 b1 e1 r1 ⊢
  have dr1 : Dcr ns H1 d l := ⟨kvs, .inr ⟨od, e1⟩, r1⟩
  have un : ∀ H', Fr ns H1 ns H' → H' d = H1 d → H' d = some (.frz od (.dT kvs)) ∧ Fr ns H' ns (upd H' d (.dT kvs)) ∧ But d H' (upd H' d (.dT kvs)) ∧ (upd H' d (.dT kvs)) d = H d ∧ Dc ns (upd H' d (.dT kvs)) d l := fun H' f hd => by
    have f2 : Fr ns H' ns (upd H' d (.dT kvs)) := .put f.live m (fun _ e => by cases e)
    exact ⟨hd.trans e1, f2, But.upd, upd_same.trans e.symm, kvs, upd_same, (r1.fr f).fr f2⟩
  refine r_for (r_ikeys (hte ?_))
  refine ⟨d, od, rfl, .inr ⟨kvs, e1, ?_⟩⟩
  refine L_it (walk_keysT (d := d) (o := od) (kvs := kvs)) (Pv H1) (h0 H1 f1 b1 dr1) (fun i σ H' _ hp => (hF H1 i σ H' hp).2.trans e1) ?_ ?_
  · rintro i x σ H' H'' hi hp ⟨rfl, k, v, q, ek, rfl, eq⟩
    obtain ⟨e2, ee2, hk2⟩ : ∃ e2, l[i]? = some e2 ∧ k = wk e2.1 := by
      have hl : i < l.length := by rw [← r.len]; exact hi
      have := r.keys
      have h3 : (kvs.map (·.1))[i]? = some k := by rw [List.getElem?_map, ek]; rfl
      rw [this, List.getElem?_map] at h3
      obtain ⟨e2, h4, h5⟩ := Option.map_eq_some_iff.mp h3
      exact ⟨e2, h4, h5.symm⟩
    have fH := (hF H1 i σ H'' hp)
    have hx : At (del ns H'') (.ref q) e2.1 := Imm.out fH.1.live (at_wo.mpr ⟨q, rfl, by rw [eq, hk2, wk_kV], ok e2 (List.mem_of_getElem? ee2)⟩)
    exact hs H1 i e2 _ σ H'' _ _ dr1 f1 b1 (fun v H3 f3 h3 k3 => ⟨(un H3 f3 h3).1, k3 _ (un H3 f3 h3).2.1 (un H3 f3 h3).2.2.1 (un H3 f3 h3).2.2.2.1 (un H3 f3 h3).2.2.2.2⟩) ee2 hx hp
  · intro σ H' hp
    have fH := hF H1 _ σ H' hp
    have u := un H' fH.1 fH.2
    exact ⟨u.1, hd H1 σ H' _ (by rw [← r.len]; exact hp) f1 b1 u.2.1 u.2.2.1 u.2.2.2.1 u.2.2.2.2⟩
end G

namespace G
open PySem L2 TL
open Dat (At enc)
/-! ### pictures -/
abbrev Going := T3 Int Int (List Wo)
abbrev Pic := T4 (List Wo) (List (Str × Wo)) (List Going) (List (Int × Wo))
instance : DecidableEq Going := inferInstanceAs (DecidableEq (T3 Int Int (List Wo)))
instance : DecidableEq Pic := inferInstanceAs (DecidableEq (T4 (List Wo) (List (Str × Wo)) (List Going) (List (Int × Wo))))
def lets : List Nat := ("abcdefghijklmnopqrstuvwxyz" : Str).cps.toList
def isName (z : Str) : Bool := (decide (1 ≤ z.length) && decide (z.length ≤ 8)) && z.cps.toList.all fun c => decide (c ∈ lets)
def isPileW (ws : List Wo) : Bool := ws.all fun w => isW w.1 w.2
def riseI (l : List Int) : Bool := (l.zip (l.drop 1)).all fun p => decide (p.1 < p.2)
def riseS (l : List Str) : Bool := (l.zip (l.drop 1)).all fun p => decide (p.1.cps.toList < p.2.cps.toList)
def arePegs (l : List (Str × Wo)) : Bool := (l.all fun r => isName r.1 && isW r.2.1 r.2.2) && riseS (l.map (·.1))
def areGoings (l : List Going) : Bool := (l.all fun r => decide (0 ≤ r.a) && (decide (0 ≤ r.b) && isPileW r.c)) && riseI (l.map (·.a))
def areBoxes (l : List (Int × Wo)) : Bool := (l.all fun r => decide (0 ≤ r.1) && isW r.2.1 r.2.2) && riseI (l.map (·.1))
def standingP (p : Pic) : List Wo := p.a ++ p.b.map (·.2) ++ p.d.map (·.2) ++ (p.c.map (·.c)).flatten
def thingsP (p : Pic) : List Wo := p.d.map (fun r => (("box", r.1) : Wo)) ++ p.c.map (fun r => (("go", r.a) : Wo))
def rootsP (p : Pic) : List Wo := thingsOf (p.a ++ p.b.map (·.2))
def isPic (p : Pic) : Bool := isPileW p.a && (arePegs p.b && (areGoings p.c && (areBoxes p.d && (decide ((thingsOf (standingP p)).length = (thingsP p).length) && (thingsP p).all fun t => decide (t ∈ thingsOf (standingP p))))))
theorem ok_box : PyData.strOk "box" = true := by decide +kernel
theorem ok_go : PyData.strOk "go" = true := by decide +kernel
theorem ok_num : PyData.strOk "num" = true := by decide +kernel
theorem ok_at : PyData.strOk "at" = true := by decide +kernel
theorem len_flat_mem {α β : Type} (f : α → List β) : ∀ {l : List α} {a : α}, a ∈ l → (f a).length ≤ ((l.map f).flatten).length
  | b :: r, a, m => by
    rw [List.map_cons, List.flatten_cons, List.length_append]
    rcases List.mem_cons.mp m with rfl | m
    · omega
    · have := len_flat_mem f m
      omega
theorem nodup_take {α : Type} : ∀ {l : List α} {i : Nat} {a : α}, l.Nodup → l[i]? = some a → a ∉ l.take i
  | _ :: _, 0, _, _, _ => by simp
  | b :: r, i + 1, a, nd, h => by
    rw [List.nodup_cons] at nd
    have h' : r[i]? = some a := by simpa using h
    rw [List.take_succ_cons]
    intro m
    rcases List.mem_cons.mp m with e | m
    · subst e
      exact nd.1 (List.mem_of_getElem? h')
    · exact nodup_take nd.2 h' m
theorem WellAt.lv {H : Hp} {p : Addr} {n : Nat} (h : WellAt H p n) : Lv H p := by
  obtain ⟨a, b, c, e, _⟩ := h
  exact .lst e
theorem pick2 {α : Type} {a b : α} {i : Int} (h0 : 0 ≤ i) (h1 : i < 2) : ∃ m, atI [a, b] i = some m ∧ ((i = 0 ∧ m = a) ∨ (i = 1 ∧ m = b)) := by
  have c : i = 0 ∨ i = 1 := by omega
  rcases c with rfl | rfl
  · exact ⟨a, rfl, .inl ⟨rfl, rfl⟩⟩
  · exact ⟨b, rfl, .inr ⟨rfl, rfl⟩⟩
theorem e30 : (10 : Int) ^ Int.toNat 30 = 1000000000000000000000000000000 := by decide +kernel
theorem atI_mem' {α : Type} {l : List α} {i : Int} {a : α} (h : atI l i = some a) : a ∈ l := by
  unfold atI at h
  cases j : ixN l.length i with
  | none =>
    rw [j] at h
    cases h
  | some k =>
    rw [j] at h
    exact List.mem_of_getElem? h
theorem isW_at {n : Int} (h : 0 ≤ n) : isW "at" n = true := by
  unfold isW
  rw [decide_eq_true h]
  decide +kernel
theorem isW_num {n : Int} : isW "num" n = true := rfl
theorem isT_at {n : Int} : isT ("at", n) = false := by
  show (("at" : Str) == "box" || ("at" : Str) == "go") = false
  decide +kernel
theorem isT_num {n : Int} : isT ("num", n) = false := by
  show (("num" : Str) == "box" || ("num" : Str) == "go") = false
  decide +kernel
/-! names -/
theorem isName_iff {z : Str} : isName z = true ↔ 1 ≤ (tl z).length ∧ (tl z).length ≤ 8 ∧ ∀ c ∈ tl z, c ∈ lets := by
  unfold isName
  rw [Bool.and_eq_true, Bool.and_eq_true, decide_eq_true_eq, decide_eq_true_eq, List.all_eq_true]
  have : z.length = (tl z).length := len_tl z
  rw [this]
  constructor
  · rintro ⟨⟨h1, h2⟩, h3⟩
    exact ⟨h1, h2, fun c m => of_decide_eq_true (h3 c m)⟩
  · rintro ⟨h1, h2, h3⟩
    exact ⟨⟨h1, h2⟩, fun c m => decide_eq_true (h3 c m)⟩
theorem isName_ok {z : Str} (h : isName z = true) : PyData.strOk z = true := by
  have := (isName_iff.mp h).2.2
  have b : ∀ c ∈ lets, c < 1114112 := by decide +kernel
  unfold PyData.strOk
  rw [← Array.all_toList, List.all_eq_true]
  exact fun c m => decide_eq_true (b c (this c m))
theorem est_well {w0 D : Addr} {H H' : Hp} {n : Nat} {o : HO} (h : H D = none) (ne : w0 ≠ D) (e : But w0 H H' ∧ WellAt H' w0 n) : But w0 H (upd H' D o) ∧ WellAt (upd H' D o) w0 n := by
  obtain ⟨b, a, b1, c, e, r⟩ := e
  exact ⟨But.upd' b h, a, b1, c, by rw [upd_ne ne]; exact e, r⟩
theorem joinL_nil : ∀ ps : List (List Nat), joinL [] ps = ps.flatten
  | [] => rfl
  | [p] => by simp [joinL]
  | p :: q :: r => by
    have ih := joinL_nil (q :: r)
    show p ++ ([] ++ joinL [] (q :: r)) = _
    rw [ih]
    simp
theorem isName_join {zs : List Str} (h0 : 1 ≤ zs.length) (h8 : zs.length ≤ 8) (h : ∀ s ∈ zs, ∃ c ∈ lets, s = (⟨#[c]⟩ : Str)) : isName (Txt.join "" zs) = true ∧ (zs.map (·.length)).sum = zs.length := by
  have e : tl (Txt.join "" zs) = (zs.map tl).flatten := by
    rw [← joinL_nil, join_eq]
    exact tl_join _ _
  have k : ∀ l : List Str, (∀ s ∈ l, ∃ c ∈ lets, s = (⟨#[c]⟩ : Str)) → (l.map tl).flatten.length = l.length ∧ (l.map (·.length)).sum = l.length ∧ ∀ c ∈ (l.map tl).flatten, c ∈ lets := by
    intro l
    induction l with
    | nil => exact fun _ => ⟨rfl, rfl, fun c m => by cases m⟩
    | cons s r ih =>
      intro h
      obtain ⟨i1, i2, i3⟩ := ih fun x m => h x (List.mem_cons_of_mem _ m)
      obtain ⟨c, mc, rfl⟩ := h s List.mem_cons_self
      have t1 : tl (⟨#[c]⟩ : Str) = [c] := rfl
      have t2 : (⟨#[c]⟩ : Str).length = 1 := rfl
      refine ⟨?_, ?_, ?_⟩
      · rw [List.map_cons, List.flatten_cons, List.length_append, i1, t1]
        simp
        omega
      · rw [List.map_cons, List.sum_cons, i2, t2]
        simp
        omega
      · rw [List.map_cons, List.flatten_cons, t1]
        intro d m
        rcases List.mem_append.mp m with m | m
        · rw [List.mem_singleton.mp m]
          exact mc
        · exact i3 d m
  obtain ⟨k1, k2, k3⟩ := k zs h
  refine ⟨isName_iff.mpr ⟨?_, ?_, ?_⟩, k2⟩
  · rw [e, k1]
    exact h0
  · rw [e, k1]
    exact h8
  · rw [e]
    exact k3
/-! ### many wells -/
def Buts (W : List Addr) (H H' : Hp) : Prop := ∀ b o, H b = some o → b ∉ W → H' b = some o
def Wls (W : List Addr) (n : Nat) (H : Hp) : Prop := ∀ p ∈ W, WellAt H p n
section
variable {W ns ms : List Addr} {H H' H1 H2 : Hp} {p q d : Addr} {n m : Nat} {o : HO}
theorem Buts.refl : Buts W H H := fun _ _ h _ => h
theorem Buts.trans (a : Buts W H H1) (b : Buts W H1 H2) : Buts W H H2 := fun c o e k => b c o (a c o e k) k
theorem Buts.of (s : Same H H') : Buts W H H' := fun b o h _ => s b o h
theorem But.buts (b : But p H H') (m : p ∈ W) : Buts W H H' := fun c o e k => b c o e fun z => k (z ▸ m)
theorem Buts.but (b : Buts W H H1) (n : H d = none) (c : But d H1 H2) : Buts W H H2 := fun x o e k => c x o (b x o e k) (ne_of_none e n)
theorem Buts.own (b : Buts W H H1) (n : H d = none) : Buts W H (upd H1 d o) := b.but n But.upd
theorem Buts.fr (b : Buts W H H') (l : Live ns H) (s : ∀ a ∈ W, a ∈ ns) (t : ∀ a ∈ W, Lv H' a) : Fr ns H ns H' := by
  refine ⟨fun c u e => ?_, fun c hc => ?_⟩
  · obtain ⟨e1, k⟩ := of_del e
    exact del_at (b c u e1 fun z => k (s c z)) k
  · by_cases z : c ∈ W
    · exact t c z
    · obtain ⟨u, h, k⟩ := l c hc
      exact ⟨u, b _ _ h z, k⟩
theorem Wls.mono (h : Wls W n H) (l : n ≤ m) : Wls W m H := fun p hp => (h p hp).mono l
theorem Wls.same (h : Wls W n H) (s : Same H H') : Wls W n H' := fun p hp => (h p hp).same s
theorem Wls.draw (h : Wls W n H) (b : But p H H') (w : WellAt H' p (n + m)) : Wls W (n + m) H' := fun q hq => by
  by_cases e : q = p
  · rw [e]
    exact w
  · obtain ⟨x, y, z, eq, r⟩ := h q hq
    exact WellAt.mono ⟨x, y, z, b _ _ eq e, r⟩ (by omega)
theorem Wls.but (h : Wls W n H) (b : But d H H') (k : d ∉ W) : Wls W n H' := fun q hq => by
  obtain ⟨x, y, z, eq, r⟩ := h q hq
  exact ⟨x, y, z, b _ _ eq (fun e => k (e ▸ hq)), r⟩
theorem Wls.lv (h : Wls W n H) : ∀ a ∈ W, Lv H a := fun a m => (h a m).lv
theorem Wls.upd (h : Wls W n H) (k : d ∉ W) : Wls W n (upd H d o) := h.but But.upd k
/-- a list of wells that stands -/
def WellsAt (ns : List Addr) (H : Hp) (v : V) (wa : List Addr) : Prop := ∃ a, v = .ref a ∧ del ns H a = some (.lst (wa.map .ref))
theorem WellsAt.fr {v : V} {wa : List Addr} (f : Fr ns H ms H') (h : WellsAt ns H v wa) : WellsAt ms H' v wa := by
  obtain ⟨a, e, h⟩ := h
  exact ⟨a, e, f.same _ _ h⟩
theorem r_ixW {K : PySem.W.Frag} {Q : VK} {v : V} {wa : List Addr} {i : Int} (h : WellsAt ns H v wa) (e : atI wa i = some p) (q : Q (.ref p) H) : rIxL K v (.int i) H Q := by
  obtain ⟨a, rfl, h⟩ := h
  refine ⟨a, _, i, _, rfl, rfl, .inl (.inl (of_del h).1), ?_, q⟩
  unfold atI at e ⊢
  rw [List.length_map]
  cases j : ixN wa.length i with
  | none =>
    rw [j] at e
    cases e
  | some k =>
    rw [j] at e
    show (wa.map V.ref)[k]? = _
    rw [List.getElem?_map]
    rw [show wa[k]? = some p from e]
    rfl
theorem r_lenW {K : PySem.W.Frag} {v : V} {wa : List Addr} {R : Nat → Prop} (h : WellsAt ns H v wa) (q : R wa.length) : ∃ x n, [v] = [x] ∧ LenV K x H n ∧ R n := by
  obtain ⟨a, rfl, h⟩ := h
  exact ⟨_, _, rfl, .inl ⟨_, .inl (.inl (of_del h).1), rfl⟩, by rw [List.length_map]; exact q⟩
end
/-- things by their numbers -/
structure NamesOk (names : List Wo) (x y : Int) : Prop where
  kind : ∀ w ∈ names, (w.1 = "box" ∧ w.2 ≤ x) ∨ (w.1 = "go" ∧ w.2 ≤ y)
  pos : ∀ w ∈ names, 0 ≤ w.2
  rise : names.Pairwise fun a b => a.1 = b.1 → a.2 < b.2
theorem NamesOk.snoc {names : List Wo} {x y x' y' : Int} {w : Wo} (h : NamesOk names x y) (hx : x ≤ x') (hy : y ≤ y') (k : (w.1 = "box" ∧ w.2 = x' ∧ x < x') ∨ (w.1 = "go" ∧ w.2 = y' ∧ y < y')) (p : 0 ≤ w.2) : NamesOk (names ++ [w]) x' y' := by
  refine ⟨fun a m => ?_, fun a m => ?_, ?_⟩
  · rcases List.mem_append.mp m with m | m
    · rcases h.kind a m with ⟨e, l⟩ | ⟨e, l⟩
      · exact .inl ⟨e, by omega⟩
      · exact .inr ⟨e, by omega⟩
    · rw [List.mem_singleton.mp m]
      rcases k with ⟨e, l, _⟩ | ⟨e, l, _⟩
      · exact .inl ⟨e, by omega⟩
      · exact .inr ⟨e, by omega⟩
  · rcases List.mem_append.mp m with m | m
    · exact h.pos a m
    · rw [List.mem_singleton.mp m]
      exact p
  · rw [List.pairwise_append]
    refine ⟨h.rise, by simp, fun a ma b mb e => ?_⟩
    rw [List.mem_singleton] at mb
    subst mb
    have ne : ("box" : Str) ≠ "go" := by decide +kernel
    rcases h.kind a ma with ⟨e1, l⟩ | ⟨e1, l⟩ <;> rcases k with ⟨e2, l2, _⟩ | ⟨e2, l2, _⟩
    · omega
    · exact absurd (e1.symm.trans (e.trans e2)) ne
    · exact absurd (e2.symm.trans (e.symm.trans e1)) ne
    · omega
/-! ### many lists that may change -/
structure Rows (ns : List Addr) (H : Hp) (cs : List (Addr × List Wo)) : Prop where
  own : ∀ e ∈ cs, e.1 ∈ ns ∧ Own ns H e.1 e.2
  nd : (cs.map (·.1)).Nodup
section
variable {ns ms hs W : List Addr} {H H' : Hp} {cs : List (Addr × List Wo)} {a : Addr} {ws ws' : List Wo} {j : Nat} {v : V}
theorem Rows.at_ (R : Rows ns H cs) (m : a ∈ cs.map (·.1)) : ∃ (j : Nat) (ws : List Wo), cs[j]? = some (a, ws) ∧ a ∈ ns ∧ Own ns H a ws := by
  obtain ⟨e, me, rfl⟩ := List.mem_map.mp m
  obtain ⟨j, hj⟩ := List.mem_iff_getElem?.mp me
  exact ⟨j, e.2, hj, R.own e me⟩
theorem Rows.keep (R : Rows ns H cs) (f : Fr ns H ns H') (k : ∀ e ∈ cs, ∀ o, H e.1 = some o → H' e.1 = some o) : Rows ns H' cs :=
  ⟨fun e m => ⟨(R.own e m).1, (R.own e m).2.fr f (k e m)⟩, R.nd⟩
theorem set_fst {α β : Type} : ∀ {cs : List (α × β)} {j : Nat} {a : α} {ws ws' : β}, cs[j]? = some (a, ws) → (cs.set j (a, ws')).map (·.1) = cs.map (·.1)
  | [], _, _, _, _, h => by cases h
  | _ :: _, 0, _, _, _, h => by
    cases h
    rfl
  | _ :: r, j + 1, _, _, _, h => by
    rw [List.set_cons_succ, List.map_cons, List.map_cons, set_fst (cs := r) (j := j) (by simpa using h)]
theorem mem_set_ne {α β : Type} : ∀ {cs : List (α × β)} {j : Nat} {a : α} {ws ws' : β}, (cs.map (·.1)).Nodup → cs[j]? = some (a, ws) → ∀ e ∈ cs.set j (a, ws'), e = (a, ws') ∨ (e ∈ cs ∧ e.1 ≠ a)
  | [], _, _, _, _, _, h, _, _ => by cases h
  | x :: r, 0, a, ws, ws', nd, h, e, m => by
    cases h
    rw [List.set_cons_zero] at m
    rw [List.map_cons, List.nodup_cons] at nd
    rcases List.mem_cons.mp m with m | m
    · exact .inl m
    · exact .inr ⟨List.mem_cons_of_mem _ m, fun q => nd.1 (List.mem_map.mpr ⟨e, m, q⟩)⟩
  | x :: r, j + 1, a, ws, ws', nd, h, e, m => by
    rw [List.set_cons_succ] at m
    rw [List.map_cons, List.nodup_cons] at nd
    have h' : r[j]? = some (a, ws) := by simpa using h
    rcases List.mem_cons.mp m with m | m
    · refine .inr ⟨by rw [m]; exact List.mem_cons_self, fun q => nd.1 (List.mem_map.mpr ⟨_, List.mem_of_getElem? h', ?_⟩)⟩
      rw [← q, m]
    · rcases mem_set_ne nd.2 h' e m with q | ⟨q, n⟩
      · exact .inl q
      · exact .inr ⟨List.mem_cons_of_mem _ q, n⟩
theorem Rows.ins (R : Rows ns H cs) (hj : cs[j]? = some (a, ws)) (f : Fr ns H ns H') (b : But a H H') (o : Own ns H' a ws') : Rows ns H' (cs.set j (a, ws')) := by
  refine ⟨fun e m => ?_, by rw [set_fst hj]; exact R.nd⟩
  rcases mem_set_ne R.nd hj e m with rfl | ⟨m, n⟩
  · exact ⟨(R.own _ (List.mem_of_getElem? hj)).1, o⟩
  · exact ⟨(R.own e m).1, (R.own e m).2.but f b n⟩
theorem hosts_at (h : WellsAt ns H v hs) (R : Rows ns H cs) (s : ∀ a ∈ hs, a ∈ cs.map (·.1)) : ∃ ls : List (List Wo), At H v ls ∧ ls.length = hs.length := by
  obtain ⟨a, rfl, h⟩ := h
  have k : ∀ l : List Addr, (∀ a ∈ l, a ∈ cs.map (·.1)) → ∃ ls : List (List Wo), Ats H (l.map V.ref) ls ∧ ls.length = l.length := by
    intro l
    induction l with
    | nil => exact fun _ => ⟨[], .nil, rfl⟩
    | cons x r ih =>
      intro s
      obtain ⟨ls, h1, h2⟩ := ih fun a m => s a (List.mem_cons_of_mem _ m)
      obtain ⟨j, ws, _, _, ys, e, ra⟩ := R.at_ (s x List.mem_cons_self)
      exact ⟨ws :: ls, .cons ⟨x, ys, rfl, e, ra.same del_sub⟩ h1, by rw [List.length_cons, h2]; rfl⟩
  obtain ⟨ls, h1, h2⟩ := k hs s
  exact ⟨ls, ⟨a, _, rfl, (of_del h).1, h1⟩, h2⟩
end
theorem insAt_mem {α : Type} {l : List α} {i : Nat} {a b : α} : b ∈ insAt l i a ↔ b = a ∨ b ∈ l := by
  unfold insAt
  rw [List.mem_append, List.mem_append, List.mem_singleton]
  have h := List.take_append_drop i l
  constructor
  · rintro ((m | m) | m)
    · exact .inr (List.mem_of_mem_take m)
    · exact .inl m
    · exact .inr (List.mem_of_mem_drop m)
  · rintro (m | m)
    · exact .inl (.inr m)
    · rw [← h] at m
      rcases List.mem_append.mp m with m | m
      · exact .inl (.inl m)
      · exact .inr m
theorem insAt_len {α : Type} {l : List α} {i : Nat} {a : α} : (insAt l i a).length = l.length + 1 := by
  unfold insAt
  have h := congrArg List.length (List.take_append_drop i l)
  rw [List.length_append] at h
  rw [List.length_append, List.length_append, List.length_singleton]
  omega
/-- what a thing was put on -/
def Held (t : Wo) (P : Addr) (hs : List Addr) (cs cs' : List (Addr × List Wo)) (pl pl' : List (Str × Wo)) : Prop :=
  (cs' = cs ∧ ∃ z, isName z = true ∧ z ∉ pl.map (·.1) ∧ pl' = pl ++ [(z, t)]) ∨ (pl' = pl ∧ ∃ (j : Nat) (a : Addr) (ws : List Wo) (i : Nat), cs[j]? = some (a, ws) ∧ (a = P ∨ a ∈ hs) ∧ cs' = cs.set j (a, insAt ws i t))
/-- [.. for a in l], l a list of lists that may change -/
theorem CW {γ : Type} [Dat γ] {K : PySem.W.Frag} {ns : List Addr} {H : Hp} {v : V} {wa : List Addr} {Q : VK} {g : TG} {tt : TT} {te : TE} {vs : List Nat} {σ : L2.St} (lv : Live ns H) (h : WellsAt ns H v wa)
    (E : Nat → Hp → Prop) (R : Nat → List γ → Prop) (r0 : R 0 []) (e0 : E 0 H) (est : ∀ i D o H', H D = none → D ∉ ns → E i H' → E i (upd H' D o))
    (hs : ∀ D i p zs H1, wa[i]? = some p → CInv ns H E R D i zs H1 → g (.ref p) (wipe σ vs) H1 fun σ2 H2 => wipe σ2 vs = wipe σ vs ∧ tt σ2 H2 fun b H3 =>
      if b = true then te σ2 H3 fun y H4 => ∃ acc, H4 D = some (.lst acc) ∧ acc.length < sizeLine ∧ CPv ns H E R D (i + 1) (upd H4 D (.lst (acc ++ [y]))) else CPv ns H E R D (i + 1) H3)
    (hd : ∀ D H' zs, H D = none → Fr ns H ns H' → E wa.length H' → R wa.length zs → zs.length ≤ wa.length → At (del ns H') (.ref D) zs → Q (.ref D) H') :
    ∃ a, v = .ref a ∧ (∃ xs, SqL K H a xs) ∧ LcL (Itl K a) g tt te vs σ H Q := by
  obtain ⟨t, rfl, h⟩ := h
  refine ⟨t, rfl, ⟨_, .inl (.inl (of_del h).1)⟩, CA_core (walk_list (K := K) (a := t) (xs := wa.map V.ref)) lv E R r0 e0 est (fun D H' f => .inl (.inl (of_del (f.same _ _ h)).1)) ?_ (by rw [List.length_map]; exact hd)⟩
  rintro D i x zs H1 H' hi k ⟨rfl, ex⟩
  rw [List.getElem?_map] at ex
  obtain ⟨p, ep, rfl⟩ := Option.map_eq_some_iff.mp ex
  exact hs D i p zs H' ep k
theorem Fr.mores {ns W : List Addr} {H H' : Hp} (l : Live ns H) (s : Same H H') (n : ∀ p ∈ W, H p = none) (t : ∀ p ∈ W, Lv H' p) : Fr ns H (W ++ ns) H' := by
  refine ⟨fun b u e => ?_, fun a m => ?_⟩
  · obtain ⟨e1, k⟩ := of_del e
    refine del_at (s b u e1) fun m => ?_
    rcases List.mem_append.mp m with m | m
    · rw [n b m] at e1
      cases e1
    · exact k m
  · rcases List.mem_append.mp m with m | m
    · exact t a m
    · exact l.same s a m
theorem atI_get {α : Type} {l : List α} {j : Nat} {a : α} (h : l[j]? = some a) : atI l (0 + (j : Int)) = some a := by
  rw [Int.zero_add]
  exact atI_nat h
theorem get_lt {α : Type} {l : List α} {j : Nat} (h : j < l.length) : l[j]? = some l[j] := List.getElem?_eq_getElem h
/-- one that is no thing -/
def Pl (w : Wo) : Prop := isW w.1 w.2 = true ∧ isT w = false
theorem gz_name {i : Nat} {σ : L2.St} {H : Hp} {Q : L2.St → Hp → Prop} {z : Int} (h0 : 0 ≤ z ∧ z ≤ 40) (h : ∀ n : Nat, n ≤ 40 → gName i (.int (n : Int)) σ H Q) : gName i (.int z) σ H Q := by
  have := h z.toNat (by omega)
  rwa [show ((z.toNat : Nat) : Int) = z by omega] at this
structure GoodPic (p : Pic) : Prop where
  pic : isPic p = true
  la : p.a.length ≤ 600
  lb : p.b.length ≤ 200
  lc : p.c.length ≤ 130
  ld : p.d.length ≤ 130
  ls : (standingP p).length ≤ 6000
theorem putA_mem {κ α : Type} [DecidableEq κ] {l : List (κ × α)} {k : κ} {a : α} {q : κ × α} (h : q ∈ putA l k a) : q ∈ l ∨ q = (k, a) := by
  unfold putA at h
  split at h
  · obtain ⟨e, me, rfl⟩ := List.mem_map.mp h
    by_cases z : e.1 = k
    · rw [if_pos z, z]
      exact .inr rfl
    · rw [if_neg z]
      exact .inl me
  · rcases List.mem_append.mp h with h | h
    · exact .inl h
    · exact .inr (List.mem_singleton.mp h)
def goF (names : List Wo) (pls : List Int) (rows : List (List Wo)) (k : Nat) : Option Going := if (names.getD k ("", 0)).1 = "go" then some ⟨(names.getD k ("", 0)).2, pls.getD k 0, rows.getD k []⟩ else none
def boF (names : List Wo) (rows : List (List Wo)) (k : Nat) : Option (Int × Wo) := if (names.getD k ("", 0)).1 = "box" then some ((names.getD k ("", 0)).2, (rows.getD k []).getD 0 ("", 0)) else none
theorem rise_of {α : Type} {r : α → α → Bool} : ∀ {l : List α}, l.Pairwise (fun a b => r a b = true) → ((l.zip (l.drop 1)).all fun p => r p.1 p.2) = true
  | [], _ => rfl
  | [a], _ => rfl
  | a :: b :: t, h => by
    rw [List.pairwise_cons] at h
    have ih := rise_of h.2
    show (r a b && (((b :: t).zip ((b :: t).drop 1)).all fun p => r p.1 p.2)) = true
    rw [h.1 b List.mem_cons_self, Bool.true_and]
    exact ih
theorem isT_box {n : Int} : isT ("box", n) = true := rfl
theorem isT_go {n : Int} : isT ("go", n) = true := by
  show (("go" : Str) == "box" || ("go" : Str) == "go") = true
  decide +kernel
theorem isW_box {n : Int} (h : 0 ≤ n) : isW "box" n = true := by
  unfold isW
  rw [decide_eq_true h]
  decide +kernel
theorem isW_go {n : Int} (h : 0 ≤ n) : isW "go" n = true := by
  unfold isW
  rw [decide_eq_true h]
  decide +kernel
theorem good_pic {names : List Wo} {x y : Int} {m : Nat} (no : NamesOk names x y) (ln : names.length = m) (hm : m ≤ 40) {pw : List Wo} {rows : List (List Wo)} {pls : List Int} {sp : List (Str × Wo)} (lr : rows.length = m) (lp : pls.length = m) (hp : ∀ z ∈ pls, 0 ≤ z)
    (kw : ∀ x ∈ pw, x ∈ names ∨ Pl x) (kr : ∀ r ∈ rows, r.length ≤ 60 ∧ ∀ x ∈ r, x ∈ names ∨ Pl x) (kb : ∀ (i : Nat) (r : List Wo) (w : Wo), rows[i]? = some r → names[i]? = some w → w.1 = "box" → r.length = 1) (ks : ∀ q ∈ sp, isName q.1 = true ∧ (q.2 ∈ names ∨ Pl q.2))
    (so : sp.Pairwise fun e f => lower e.1 f.1) (hd : ∀ (i : Nat) (w : Wo), i < m → names[i]? = some w → w ∈ pw ∨ (∃ q ∈ sp, q.2 = w) ∨ ∃ r ∈ rows, w ∈ r) (lpw : pw.length ≤ 300) (lsp : sp.length ≤ 100) :
    GoodPic ⟨pw, sp, (List.range m).filterMap (goF names pls rows), (List.range m).filterMap (boF names rows)⟩ ∧ (standingP ⟨pw, sp, (List.range m).filterMap (goF names pls rows), (List.range m).filterMap (boF names rows)⟩).length ≤ 5000 := by
  have nbg : ("box" : Str) ≠ "go" := by decide +kernel
  have gw : ∀ w, w ∈ names ∨ Pl w → isW w.1 w.2 = true := fun w h => by
    rcases h with h | h
    · have p := no.pos w h
      obtain ⟨a, b⟩ := w
      rcases no.kind _ h with ⟨e, _⟩ | ⟨e, _⟩
      · rw [show a = "box" from e]
        exact isW_box p
      · rw [show a = "go" from e]
        exact isW_go p
    · exact h.1
  have gt : ∀ w ∈ names, isT w = true := fun w h => by
    obtain ⟨a, b⟩ := w
    rcases no.kind _ h with ⟨e, _⟩ | ⟨e, _⟩
    · rw [show a = "box" from e]
      exact isT_box
    · rw [show a = "go" from e]
      exact isT_go
  have pile : ∀ l : List Wo, (∀ x ∈ l, x ∈ names ∨ Pl x) → isPileW l = true := fun l h => by
    unfold isPileW
    rw [List.all_eq_true]
    exact fun w mw => gw w (h w mw)
  have at_ : ∀ k, k < m → ∃ w r z, names[k]? = some w ∧ rows[k]? = some r ∧ pls[k]? = some z ∧ names.getD k ("", 0) = w ∧ rows.getD k [] = r ∧ pls.getD k 0 = z := fun k hk => by
    have h1 := get_lt (l := names) (j := k) (by omega)
    have h2 := get_lt (l := rows) (j := k) (by omega)
    have h3 := get_lt (l := pls) (j := k) (by omega)
    refine ⟨_, _, _, h1, h2, h3, ?_, ?_, ?_⟩
    · rw [List.getD_eq_getElem?_getD, h1]; rfl
    · rw [List.getD_eq_getElem?_getD, h2]; rfl
    · rw [List.getD_eq_getElem?_getD, h3]; rfl
  have mgo : ∀ g, g ∈ (List.range m).filterMap (goF names pls rows) ↔ ∃ (k : Nat) (w : Wo) (r : List Wo) (z : Int), k < m ∧ names[k]? = some w ∧ rows[k]? = some r ∧ pls[k]? = some z ∧ w.1 = "go" ∧ g = ⟨w.2, z, r⟩ := fun g => by
    rw [List.mem_filterMap]
    constructor
    · rintro ⟨k, hk, e⟩
      rw [List.mem_range] at hk
      obtain ⟨w, r, z, h1, h2, h3, h4, h5, h6⟩ := at_ k hk
      unfold goF at e
      rw [h4, h5, h6] at e
      split at e
      · rename_i c
        cases e
        exact ⟨k, w, r, z, hk, h1, h2, h3, c, rfl⟩
      · cases e
    · rintro ⟨k, w, r, z, hk, h1, h2, h3, c, rfl⟩
      refine ⟨k, List.mem_range.mpr hk, ?_⟩
      obtain ⟨w', r', z', g1, g2, g3, g4, g5, g6⟩ := at_ k hk
      rw [h1] at g1
      rw [h2] at g2
      rw [h3] at g3
      cases g1
      cases g2
      cases g3
      unfold goF
      rw [g4, g5, g6, if_pos c]
  have mbo : ∀ b, b ∈ (List.range m).filterMap (boF names rows) ↔ ∃ (k : Nat) (w x : Wo), k < m ∧ names[k]? = some w ∧ rows[k]? = some [x] ∧ w.1 = "box" ∧ b = (w.2, x) := fun b => by
    rw [List.mem_filterMap]
    constructor
    · rintro ⟨k, hk, e⟩
      rw [List.mem_range] at hk
      obtain ⟨w, r, z, h1, h2, h3, h4, h5, h6⟩ := at_ k hk
      unfold boF at e
      rw [h4, h5] at e
      split at e
      · rename_i c
        have l1 := kb k r w h2 h1 c
        obtain ⟨x, rfl⟩ := List.length_eq_one_iff.mp l1
        cases e
        exact ⟨k, w, x, hk, h1, h2, c, rfl⟩
      · cases e
    · rintro ⟨k, w, x, hk, h1, h2, c, rfl⟩
      refine ⟨k, List.mem_range.mpr hk, ?_⟩
      obtain ⟨w', r', z', g1, g2, g3, g4, g5, g6⟩ := at_ k hk
      rw [h1] at g1
      rw [h2] at g2
      cases g1
      cases g2
      unfold boF
      rw [g4, g5, if_pos c]
      rfl
  have pwn : ∀ (i j : Nat) (a b : Wo), i < j → names[i]? = some a → names[j]? = some b → a.1 = b.1 → a.2 < b.2 := fun i j a b hij ha hb e => by
    obtain ⟨hi, ei⟩ := List.getElem?_eq_some_iff.mp ha
    obtain ⟨hj, ej⟩ := List.getElem?_eq_some_iff.mp hb
    have := (List.pairwise_iff_getElem.mp no.rise) i j hi hj hij
    rw [ei, ej] at this
    exact this e
  have rgo : ((List.range m).filterMap (goF names pls rows)).Pairwise fun a b => a.a < b.a := by
    rw [List.pairwise_filterMap]
    refine List.Pairwise.imp_of_mem (fun {i j} mi mj hij g hg h hh => ?_) (List.pairwise_lt_range (n := m))
    rw [List.mem_range] at mi mj
    obtain ⟨w, r, z, h1, h2, h3, h4, h5, h6⟩ := at_ i mi
    obtain ⟨w', r', z', g1, g2, g3, g4, g5, g6⟩ := at_ j mj
    unfold goF at hg hh
    rw [h4] at hg
    rw [g4] at hh
    split at hg
    · rename_i c
      split at hh
      · rename_i c'
        cases hg
        cases hh
        exact pwn i j w w' hij h1 g1 (c.trans c'.symm)
      · cases hh
    · cases hg
  have rbo : ((List.range m).filterMap (boF names rows)).Pairwise fun a b => a.1 < b.1 := by
    rw [List.pairwise_filterMap]
    refine List.Pairwise.imp_of_mem (fun {i j} mi mj hij g hg h hh => ?_) (List.pairwise_lt_range (n := m))
    rw [List.mem_range] at mi mj
    obtain ⟨w, r, z, h1, h2, h3, h4, h5, h6⟩ := at_ i mi
    obtain ⟨w', r', z', g1, g2, g3, g4, g5, g6⟩ := at_ j mj
    unfold boF at hg hh
    rw [h4] at hg
    rw [g4] at hh
    split at hg
    · rename_i c
      split at hh
      · rename_i c'
        cases hg
        cases hh
        exact pwn i j w w' hij h1 g1 (c.trans c'.symm)
      · cases hh
    · cases hg
  have hth : ∀ t, t ∈ thingsP ⟨pw, sp, (List.range m).filterMap (goF names pls rows), (List.range m).filterMap (boF names rows)⟩ ↔ t ∈ names := fun t => by
    unfold thingsP
    rw [List.mem_append, List.mem_map, List.mem_map]
    constructor
    · rintro (⟨b, mb, rfl⟩ | ⟨g, mg, rfl⟩)
      · obtain ⟨k, w, x, _, h1, _, c, rfl⟩ := (mbo b).mp mb
        have := List.mem_of_getElem? h1
        rw [show ((("box", (w.2, x).1) : Wo)) = w from Prod.ext c.symm rfl]
        exact this
      · obtain ⟨k, w, r, z, _, h1, _, _, c, rfl⟩ := (mgo g).mp mg
        have := List.mem_of_getElem? h1
        rw [show ((("go", (⟨w.2, z, r⟩ : Going).a) : Wo)) = w from Prod.ext c.symm rfl]
        exact this
    · intro mt
      obtain ⟨k, hk⟩ := List.mem_iff_getElem?.mp mt
      have km : k < m := by
        have := (List.getElem?_eq_some_iff.mp hk).1
        omega
      obtain ⟨w, r, z, h1, h2, h3, _, _, _⟩ := at_ k km
      rw [hk] at h1
      cases h1
      rcases no.kind t mt with ⟨e, _⟩ | ⟨e, _⟩
      · obtain ⟨x, rfl⟩ := List.length_eq_one_iff.mp (kb k r t h2 hk e)
        exact .inl ⟨(t.2, x), (mbo _).mpr ⟨k, t, x, km, hk, h2, e, rfl⟩, Prod.ext e.symm rfl⟩
      · exact .inr ⟨⟨t.2, z, r⟩, (mgo _).mpr ⟨k, t, r, z, km, hk, h2, h3, e, rfl⟩, Prod.ext e.symm rfl⟩
  have hst : ∀ t, t ∈ thingsOf (standingP ⟨pw, sp, (List.range m).filterMap (goF names pls rows), (List.range m).filterMap (boF names rows)⟩) ↔ t ∈ names := fun t => by
    rw [mem_thingsOf]
    unfold standingP
    rw [List.mem_append, List.mem_append, List.mem_append, List.mem_map, List.mem_map, List.mem_flatten]
    constructor
    · rintro ⟨h, ht⟩
      have k : t ∈ names ∨ Pl t := by
        rcases h with ((h | ⟨q, mq, rfl⟩) | ⟨b, mb, rfl⟩) | ⟨r, mr, hr⟩
        · exact kw t h
        · exact (ks q mq).2
        · obtain ⟨k, w, x, _, _, h2, _, rfl⟩ := (mbo b).mp mb
          exact (kr _ (List.mem_of_getElem? h2)).2 x List.mem_cons_self
        · obtain ⟨g, mg, rfl⟩ := List.mem_map.mp mr
          obtain ⟨k, w, r, z, _, _, h2, _, _, rfl⟩ := (mgo g).mp mg
          exact (kr _ (List.mem_of_getElem? h2)).2 t hr
      rcases k with k | k
      · exact k
      · rw [k.2] at ht
        cases ht
    · intro mt
      refine ⟨?_, gt t mt⟩
      obtain ⟨k, hk⟩ := List.mem_iff_getElem?.mp mt
      have km : k < m := by
        have := (List.getElem?_eq_some_iff.mp hk).1
        omega
      rcases hd k t km hk with h | ⟨q, mq, e⟩ | ⟨r, mr, hr⟩
      · exact .inl (.inl (.inl h))
      · exact .inl (.inl (.inr ⟨q, mq, e⟩))
      · obtain ⟨j, hj⟩ := List.mem_iff_getElem?.mp mr
        have jm : j < m := by
          have := (List.getElem?_eq_some_iff.mp hj).1
          omega
        obtain ⟨w, r', z, h1, h2, h3, _, _, _⟩ := at_ j jm
        rw [hj] at h2
        cases h2
        rcases no.kind w (List.mem_of_getElem? h1) with ⟨e, _⟩ | ⟨e, _⟩
        · obtain ⟨x, rfl⟩ := List.length_eq_one_iff.mp (kb j r w hj h1 e)
          rw [List.mem_singleton] at hr
          subst hr
          exact .inl (.inr ⟨(w.2, t), (mbo _).mpr ⟨j, w, t, jm, h1, hj, e, rfl⟩, rfl⟩)
        · exact .inr ⟨r, List.mem_map.mpr ⟨⟨w.2, z, r⟩, (mgo _).mpr ⟨j, w, r, z, jm, h1, hj, h3, e, rfl⟩, rfl⟩, hr⟩
  have ndt : (thingsP ⟨pw, sp, (List.range m).filterMap (goF names pls rows), (List.range m).filterMap (boF names rows)⟩).Nodup := by
    unfold thingsP
    rw [List.nodup_append, List.nodup_iff_pairwise_ne, List.nodup_iff_pairwise_ne, List.pairwise_map, List.pairwise_map]
    refine ⟨rbo.imp fun {a b} h e => ?_, rgo.imp fun {a b} h e => ?_, fun a ma b mb e => ?_⟩
    · have : a.1 = b.1 := (Prod.mk.inj e).2
      omega
    · have : a.a = b.a := (Prod.mk.inj e).2
      omega
    · obtain ⟨u, _, rfl⟩ := List.mem_map.mp ma
      obtain ⟨v, _, rfl⟩ := List.mem_map.mp mb
      exact nbg (Prod.mk.inj e).1
  have hlen : (thingsOf (standingP ⟨pw, sp, (List.range m).filterMap (goF names pls rows), (List.range m).filterMap (boF names rows)⟩)).length = (thingsP ⟨pw, sp, (List.range m).filterMap (goF names pls rows), (List.range m).filterMap (boF names rows)⟩).length :=
    ((List.perm_ext_iff_of_nodup (things_nodup _) ndt).mpr fun t => (hst t).trans (hth t).symm).length_eq
  have hs5 : (standingP ⟨pw, sp, (List.range m).filterMap (goF names pls rows), (List.range m).filterMap (boF names rows)⟩).length ≤ 5000 := by
    have lf : ∀ l : List Going, (∀ g ∈ l, g.c.length ≤ 60) → ((l.map (·.c)).flatten).length ≤ 60 * l.length := by
      intro l
      induction l with
      | nil => exact fun _ => Nat.zero_le _
      | cons g r ih =>
        intro h
        rw [List.map_cons, List.flatten_cons, List.length_append, List.length_cons]
        have := ih fun x m => h x (List.mem_cons_of_mem _ m)
        have := h g List.mem_cons_self
        omega
    have l1 := lf ((List.range m).filterMap (goF names pls rows)) fun g mg => by
      obtain ⟨k, w, r, z, _, _, h2, _, _, rfl⟩ := (mgo g).mp mg
      exact (kr r (List.mem_of_getElem? h2)).1
    have l2 := List.length_filterMap_le (goF names pls rows) (List.range m)
    have l3 := List.length_filterMap_le (boF names rows) (List.range m)
    rw [List.length_range] at l2 l3
    unfold standingP
    simp only [List.length_append, List.length_map]
    omega
  refine ⟨⟨?_, by show pw.length ≤ 600; omega, by show sp.length ≤ 200; omega, ?_, ?_, by omega⟩, hs5⟩
  · unfold isPic
    have a1 : arePegs sp = true := by
      unfold arePegs riseS
      rw [Bool.and_eq_true]
      refine ⟨List.all_eq_true.mpr fun q mq => ?_, rise_of (r := fun (a b : Str) => decide (a.cps.toList < b.cps.toList)) ?_⟩
      · rw [(ks q mq).1, Bool.true_and]
        exact gw _ (ks q mq).2
      · rw [List.pairwise_map]
        exact so.imp fun {a b} h => decide_eq_true (p := a.1.cps.toList < b.1.cps.toList) h
    have a2 : areGoings ((List.range m).filterMap (goF names pls rows)) = true := by
      unfold areGoings riseI
      rw [Bool.and_eq_true]
      refine ⟨List.all_eq_true.mpr fun g mg => ?_, rise_of (r := fun (a b : Int) => decide (a < b)) ?_⟩
      · obtain ⟨k, w, r, z, _, h1, h2, h3, c, rfl⟩ := (mgo g).mp mg
        rw [decide_eq_true (no.pos w (List.mem_of_getElem? h1)), decide_eq_true (hp z (List.mem_of_getElem? h3)), pile r (kr r (List.mem_of_getElem? h2)).2]
        rfl
      · rw [List.pairwise_map]
        exact rgo.imp fun h => decide_eq_true h
    have a3 : areBoxes ((List.range m).filterMap (boF names rows)) = true := by
      unfold areBoxes riseI
      rw [Bool.and_eq_true]
      refine ⟨List.all_eq_true.mpr fun b mb => ?_, rise_of (r := fun (a b : Int) => decide (a < b)) ?_⟩
      · obtain ⟨k, w, x, _, h1, h2, c, rfl⟩ := (mbo b).mp mb
        rw [decide_eq_true (no.pos w (List.mem_of_getElem? h1)), gw x ((kr _ (List.mem_of_getElem? h2)).2 x List.mem_cons_self)]
        rfl
      · rw [List.pairwise_map]
        exact rbo.imp fun h => decide_eq_true h
    rw [pile pw kw, a1, a2, a3, decide_eq_true hlen, Bool.true_and, Bool.true_and, Bool.true_and, Bool.true_and, Bool.true_and]
    exact List.all_eq_true.mpr fun t mt => decide_eq_true ((hst t).mpr ((hth t).mp mt))
  · exact Nat.le_trans (List.length_filterMap_le _ _) (by rw [List.length_range]; omega)
  · exact Nat.le_trans (List.length_filterMap_le _ _) (by rw [List.length_range]; omega)
/-! ### what is held -/
def heldP (p : Pic) : List (Wo × List Wo) := p.d.map (fun r => ((("box", r.1) : Wo), thingsOf [r.2])) ++ p.c.map fun r => ((("go", r.a) : Wo), thingsOf r.c)
theorem heldP_keys (p : Pic) : (heldP p).map (·.1) = thingsP p := by
  unfold heldP thingsP
  rw [List.map_append, List.map_map, List.map_map]
  rfl
theorem rise_lt : ∀ {l : List Int}, riseI l = true → l.Pairwise (· < ·)
  | [], _ => .nil
  | [a], _ => by simp
  | a :: b :: t, h => by
    have h' : (decide (a < b) && riseI (b :: t)) = true := h
    rw [Bool.and_eq_true] at h'
    have ih := rise_lt h'.2
    rw [List.pairwise_cons]
    refine ⟨fun c m => ?_, ih⟩
    have ab := of_decide_eq_true h'.1
    rcases List.mem_cons.mp m with rfl | m
    · exact ab
    · have := (List.pairwise_cons.mp ih).1 c m
      omega
theorem things_nd {p : Pic} (h : isPic p = true) : (thingsP p).Nodup := by
  unfold isPic at h
  simp only [Bool.and_eq_true] at h
  obtain ⟨_, _, hg, hb, _⟩ := h
  unfold areGoings at hg
  unfold areBoxes at hb
  rw [Bool.and_eq_true] at hg hb
  have rg := rise_lt hg.2
  have rb := rise_lt hb.2
  rw [List.pairwise_map] at rg rb
  have nbg : ("box" : Str) ≠ "go" := by decide +kernel
  unfold thingsP
  rw [List.nodup_append, List.nodup_iff_pairwise_ne, List.nodup_iff_pairwise_ne, List.pairwise_map, List.pairwise_map]
  refine ⟨rb.imp fun {a b} h e => ?_, rg.imp fun {a b} h e => ?_, fun a ma b mb e => ?_⟩
  · have : a.1 = b.1 := (Prod.mk.inj e).2
    omega
  · have : a.a = b.a := (Prod.mk.inj e).2
    omega
  · obtain ⟨u, _, rfl⟩ := List.mem_map.mp ma
    obtain ⟨v, _, rfl⟩ := List.mem_map.mp mb
    exact nbg (Prod.mk.inj e).1
theorem pigeon {α : Type} [DecidableEq α] : ∀ {A B : List α}, A.Nodup → B.Nodup → (∀ a ∈ A, a ∈ B) → B.length ≤ A.length → ∀ b ∈ B, b ∈ A
  | [], B, _, _, _, l, b, m => by
    have : B = [] := List.eq_nil_of_length_eq_zero (Nat.le_zero.mp l)
    rw [this] at m
    cases m
  | a :: A, B, na, nb, s, l, b, m => by
    rw [List.nodup_cons] at na
    have ma := s a List.mem_cons_self
    have le : (B.erase a).length = B.length - 1 := List.length_erase_of_mem ma
    by_cases e : b = a
    · rw [e]
      exact List.mem_cons_self
    · refine List.mem_cons_of_mem _ (pigeon na.2 (nb.erase a) (fun x mx => (List.mem_erase_of_ne fun q => na.1 (by rw [← q]; exact mx)).mpr (s x (List.mem_cons_of_mem _ mx))) (by rw [le]; rw [List.length_cons] at l; omega) b ((List.mem_erase_of_ne e).mpr m))
theorem pic_mem {p : Pic} (h : isPic p = true) (w : Wo) : w ∈ thingsP p ↔ w ∈ standingP p ∧ isT w = true := by
  have nd := things_nd h
  unfold isPic at h
  simp only [Bool.and_eq_true] at h
  obtain ⟨_, _, _, _, hl, ha⟩ := h
  rw [← mem_thingsOf]
  have sub : ∀ t ∈ thingsP p, t ∈ thingsOf (standingP p) := fun t m => of_decide_eq_true (List.all_eq_true.mp ha t m)
  exact ⟨sub w, pigeon nd (things_nodup _) sub (Nat.le_of_eq (of_decide_eq_true hl)) w⟩
theorem heldP_get {p : Pic} {k : Wo} {l : List Wo} (nd : (thingsP p).Nodup) (h : (k, l) ∈ heldP p) : getA (heldP p) k = some l := getA_of (by rw [heldP_keys]; exact nd) h
theorem heldP_some {p : Pic} {k : Wo} (h : k ∈ thingsP p) : ∃ l, getA (heldP p) k = some l := by
  cases e : getA (heldP p) k with
  | some l => exact ⟨l, rfl⟩
  | none =>
    rw [← heldP_keys] at h
    exact absurd h (getA_none.mp e)
theorem heldP_mem {p : Pic} {k : Wo} {l : List Wo} (h : isPic p = true) (e : getA (heldP p) k = some l) : ∀ w ∈ l, w ∈ thingsP p := by
  intro w m
  have m1 := getA_mem e
  unfold heldP at m1
  rw [pic_mem h]
  rcases List.mem_append.mp m1 with m1 | m1
  · obtain ⟨r, mr, q⟩ := List.mem_map.mp m1
    cases q
    have := mem_thingsOf.mp m
    refine ⟨?_, this.2⟩
    rw [List.mem_singleton.mp this.1]
    unfold standingP
    exact List.mem_append_left _ (List.mem_append_right _ (List.mem_map_of_mem mr))
  · obtain ⟨r, mr, q⟩ := List.mem_map.mp m1
    cases q
    have := mem_thingsOf.mp m
    refine ⟨?_, this.2⟩
    unfold standingP
    exact List.mem_append_right _ (List.mem_flatten.mpr ⟨_, List.mem_map_of_mem mr, this.1⟩)
theorem roots_mem {p : Pic} (h : isPic p = true) : ∀ w ∈ rootsP p, w ∈ thingsP p := by
  intro w m
  rw [pic_mem h]
  have := mem_thingsOf.mp m
  refine ⟨?_, this.2⟩
  unfold standingP
  exact List.mem_append_left _ (List.mem_append_left _ this.1)
def linkAt (h : List (Wo × List Wo)) (l : List Wo) (i : Nat) : Bool := decide (l.getD (i + 1) ("", 0) ∈ (getA h (l.getD i ("", 0))).getD [])
/-- whether a list is a way -/
def wayB (p : Pic) (l : List Wo) : Bool := if decide (l = []) = true then false else decide (l.getD 0 ("", 0) ∈ rootsP p) && (List.range (l.length - 1)).all (linkAt (heldP p) l)
end G
namespace G
open PySem L2 TL
open Dat (At enc)
theorem isPic_parts {p : Pic} (h : isPic p = true) : isPileW p.a = true ∧ arePegs p.b = true ∧ areGoings p.c = true ∧ areBoxes p.d = true := by
  unfold isPic at h
  simp only [Bool.and_eq_true] at h
  exact ⟨h.1, h.2.1, h.2.2.1, h.2.2.2.1⟩
theorem things_nd' {p : Pic} (hg : areGoings p.c = true) (hb : areBoxes p.d = true) : (thingsP p).Nodup := by
  unfold areGoings at hg
  unfold areBoxes at hb
  rw [Bool.and_eq_true] at hg hb
  have rg := rise_lt hg.2
  have rb := rise_lt hb.2
  rw [List.pairwise_map] at rg rb
  have nbg : ("box" : Str) ≠ "go" := by decide +kernel
  unfold thingsP
  rw [List.nodup_append, List.nodup_iff_pairwise_ne, List.nodup_iff_pairwise_ne, List.pairwise_map, List.pairwise_map]
  refine ⟨rb.imp fun {a b} h e => ?_, rg.imp fun {a b} h e => ?_, fun a ma b mb e => ?_⟩
  · have : a.1 = b.1 := (Prod.mk.inj e).2
    omega
  · have : a.a = b.a := (Prod.mk.inj e).2
    omega
  · obtain ⟨u, _, rfl⟩ := List.mem_map.mp ma
    obtain ⟨v, _, rfl⟩ := List.mem_map.mp mb
    exact nbg (Prod.mk.inj e).1
theorem isPic_mk {p : Pic} (ha : isPileW p.a = true) (hb : arePegs p.b = true) (hc : areGoings p.c = true) (hd : areBoxes p.d = true) (hm : ∀ w, w ∈ thingsP p ↔ w ∈ standingP p ∧ isT w = true) : isPic p = true := by
  have nd := things_nd' hc hd
  have hm2 : ∀ w, w ∈ thingsOf (standingP p) ↔ w ∈ thingsP p := fun w => by rw [mem_thingsOf, hm]
  unfold isPic
  rw [ha, hb, hc, hd, Bool.true_and, Bool.true_and, Bool.true_and, Bool.true_and, Bool.and_eq_true]
  exact ⟨decide_eq_true ((List.perm_ext_iff_of_nodup (things_nodup _) nd).mpr hm2).length_eq, List.all_eq_true.mpr fun t mt => decide_eq_true ((hm2 t).mpr mt)⟩
/-- more that is no thing, on the pile -/
theorem good_more {p : Pic} {more : List Wo} (g : GoodPic p) (la : p.a.length ≤ 300) (ls : (standingP p).length ≤ 5000) (lm : more.length ≤ 120) (k : ∀ w ∈ more, Pl w) : GoodPic ⟨more ++ p.a, p.b, p.c, p.d⟩ := by
  obtain ⟨ha, hb, hc, hd⟩ := isPic_parts g.pic
  refine ⟨isPic_mk ?_ hb hc hd fun w => ?_, ?_, g.lb, g.lc, g.ld, ?_⟩
  · unfold isPileW at ha ⊢
    rw [List.all_append, ha, Bool.and_true, List.all_eq_true]
    exact fun w m => (k w m).1
  · have := pic_mem g.pic w
    rw [show thingsP ⟨more ++ p.a, p.b, p.c, p.d⟩ = thingsP p from rfl, this]
    unfold standingP
    simp only [List.mem_append]
    constructor
    · rintro ⟨h, t⟩
      refine ⟨?_, t⟩
      rcases h with ((h | h) | h) | h
      · exact .inl (.inl (.inl (.inr h)))
      · exact .inl (.inl (.inr h))
      · exact .inl (.inr h)
      · exact .inr h
    · rintro ⟨h, t⟩
      refine ⟨?_, t⟩
      rcases h with (((h | h) | h) | h) | h
      · rw [(k w h).2] at t
        cases t
      · exact .inl (.inl (.inl h))
      · exact .inl (.inl (.inr h))
      · exact .inl (.inr h)
      · exact .inr h
  · show (more ++ p.a).length ≤ 600
    rw [List.length_append]
    omega
  · unfold standingP at ls ⊢
    simp only [List.length_append, List.length_map] at ls ⊢
    omega
theorem good_more_row {p : Pic} {more : List Wo} {i : Nat} {r : Going} (g : GoodPic p) (ls : (standingP p).length ≤ 5000) (hi : p.c[i]? = some r) (lm : more.length ≤ 120) (k : ∀ w ∈ more, Pl w) : GoodPic ⟨p.a, p.b, p.c.take i ++ [⟨r.a, r.b, more ++ r.c⟩] ++ p.c.drop (i + 1), p.d⟩ := by
  obtain ⟨ha, hb, hc, hd⟩ := isPic_parts g.pic
  have hlt := (List.getElem?_eq_some_iff.mp hi).1
  have ec : p.c = p.c.take i ++ [r] ++ p.c.drop (i + 1) := by
    conv => lhs; rw [← List.take_append_drop (i + 1) p.c]
    rw [List.take_add_one, hi]
    rfl
  have em : (p.c.take i ++ [(⟨r.a, r.b, more ++ r.c⟩ : Going)] ++ p.c.drop (i + 1)).map (·.a) = p.c.map (·.a) := by
    conv => rhs; rw [ec]
    simp
  have et : thingsP ⟨p.a, p.b, p.c.take i ++ [⟨r.a, r.b, more ++ r.c⟩] ++ p.c.drop (i + 1), p.d⟩ = thingsP p := by
    have h : ∀ l : List Going, l.map (fun r => (("go", r.a) : Wo)) = (l.map (·.a)).map fun n => (("go", n) : Wo) := fun l => by rw [List.map_map]; rfl
    unfold thingsP
    rw [h, h]
    show _ ++ (List.map _ (List.map _ (p.c.take i ++ [(⟨r.a, r.b, more ++ r.c⟩ : Going)] ++ p.c.drop (i + 1)))) = _
    rw [em]
  have hst : ∀ w, w ∈ standingP ⟨p.a, p.b, p.c.take i ++ [⟨r.a, r.b, more ++ r.c⟩] ++ p.c.drop (i + 1), p.d⟩ ↔ w ∈ more ∨ w ∈ standingP p := fun w => by
    unfold standingP
    rw [show (p.c.map fun x => x.c) = (p.c.take i ++ [r] ++ p.c.drop (i + 1)).map (fun x => x.c) from by rw [← ec]]
    simp only [List.mem_append, List.map_append, List.flatten_append, List.map_cons, List.map_nil, List.flatten_cons, List.flatten_nil, List.append_nil]
    constructor
    · rintro (h | (h | (h | h)) | h)
      · exact .inr (.inl h)
      · exact .inr (.inr (.inl (.inl h)))
      · exact .inl h
      · exact .inr (.inr (.inl (.inr h)))
      · exact .inr (.inr (.inr h))
    · rintro (h | h | (h | h) | h)
      · exact .inr (.inl (.inr (.inl h)))
      · exact .inl h
      · exact .inr (.inl (.inl h))
      · exact .inr (.inl (.inr (.inr h)))
      · exact .inr (.inr h)
  refine ⟨isPic_mk ha hb ?_ hd fun w => ?_, g.la, g.lb, ?_, g.ld, ?_⟩
  · have hc' := hc
    rw [ec] at hc'
    unfold areGoings at hc' ⊢
    rw [Bool.and_eq_true] at hc' ⊢
    refine ⟨?_, ?_⟩
    · have h1 := hc'.1
      simp only [List.all_append, List.all_cons, List.all_nil, Bool.and_true, Bool.and_eq_true] at h1 ⊢
      obtain ⟨⟨h2, h3, h4, h5⟩, h6⟩ := h1
      refine ⟨⟨h2, h3, h4, ?_⟩, h6⟩
      unfold isPileW at h5 ⊢
      rw [List.all_append, h5, Bool.and_true, List.all_eq_true]
      exact fun w m => (k w m).1
    · rw [em]
      rw [← ec] at hc'
      exact hc'.2
  · rw [et, pic_mem g.pic w, hst]
    exact ⟨fun ⟨h, t⟩ => ⟨.inr h, t⟩, fun ⟨h, t⟩ => ⟨h.resolve_left fun m => (by rw [(k w m).2] at t; cases t), t⟩⟩
  · have h := congrArg List.length em
    rw [List.length_map, List.length_map] at h
    show (p.c.take i ++ [(⟨r.a, r.b, more ++ r.c⟩ : Going)] ++ p.c.drop (i + 1)).length ≤ 130
    rw [h]
    exact g.lc
  · have e : (standingP ⟨p.a, p.b, p.c.take i ++ [⟨r.a, r.b, more ++ r.c⟩] ++ p.c.drop (i + 1), p.d⟩).length = more.length + (standingP p).length := by
      unfold standingP
      rw [show (p.c.map fun x => x.c) = (p.c.take i ++ [r] ++ p.c.drop (i + 1)).map (fun x => x.c) from by rw [← ec]]
      simp only [List.length_append, List.map_append, List.flatten_append, List.map_cons, List.map_nil, List.flatten_cons, List.flatten_nil, List.append_nil]
      omega
    rw [e]
    omega
theorem heldP_nd {p : Pic} {k : Wo} {l : List Wo} (e : getA (heldP p) k = some l) : l.Nodup := by
  have m1 := getA_mem e
  unfold heldP at m1
  rcases List.mem_append.mp m1 with m1 | m1
  · obtain ⟨r, mr, q⟩ := List.mem_map.mp m1
    cases q
    exact things_nodup _
  · obtain ⟨r, mr, q⟩ := List.mem_map.mp m1
    cases q
    exact things_nodup _
theorem nodup_le {α : Type} [DecidableEq α] : ∀ {A B : List α}, A.Nodup → (∀ a ∈ A, a ∈ B) → A.length ≤ B.length
  | [], _, _, _ => Nat.zero_le _
  | a :: A, B, na, s => by
    rw [List.nodup_cons] at na
    have ma := s a List.mem_cons_self
    have le : (B.erase a).length = B.length - 1 := List.length_erase_of_mem ma
    have lp : 0 < B.length := List.length_pos_of_mem ma
    have := nodup_le (B := B.erase a) na.2 fun x mx => (List.mem_erase_of_ne fun q => na.1 (by rw [← q]; exact mx)).mpr (s x (List.mem_cons_of_mem _ mx))
    rw [List.length_cons]
    omega
theorem pigeonLe {l : List Wo} {p : Pic} (_ : l ≠ []) (s : ∀ w ∈ l, w ∈ thingsP p) (nd : l.Nodup) : l.length ≤ (thingsP p).length := nodup_le nd s
theorem rng_e {R : Int → Prop} {z : Int} (h0 : 0 ≤ z ∧ z ≤ 100) (h : ∀ m : Nat, m ≤ 100 → (m : Int) = z → R ((m : Nat) : Int)) : ∃ j : Int, [V.int z] = [.int j] ∧ -(2 ^ 62) ≤ j ∧ j < 2 ^ 62 ∧ R j :=
  ⟨((z.toNat : Nat) : Int), by rw [Int.toNat_of_nonneg h0.1], by omega, by omega, h z.toNat (by omega) (by omega)⟩
theorem rng_b {R : Int → Prop} {z : Int} (h0 : 0 ≤ z ∧ z ≤ 100) (h : ∀ m : Nat, m ≤ 100 → R ((m : Nat) : Int)) : ∃ j : Int, [V.int z] = [.int j] ∧ -(2 ^ 62) ≤ j ∧ j < 2 ^ 62 ∧ R j := by
  have := h z.toNat (by omega)
  rw [show ((z.toNat : Nat) : Int) = z by omega] at this
  exact ⟨z, rfl, by omega, by omega, this⟩
/-- what some way ends with -/
inductive Reach (p : Pic) : Wo → Prop
  | root {w : Wo} : w ∈ rootsP p → Reach p w
  | step {a w : Wo} {l : List Wo} : Reach p a → getA (heldP p) a = some l → w ∈ l → Reach p w
theorem Reach.thing {p : Pic} (h : isPic p = true) {w : Wo} (r : Reach p w) : w ∈ thingsP p := by
  induction r with
  | root m => exact roots_mem h _ m
  | step _ e m _ => exact heldP_mem h e _ m
theorem reach_closed {p : Pic} {S : List Wo} (h1 : ∀ w ∈ rootsP p, w ∈ S) (h2 : ∀ a ∈ S, ∀ l, getA (heldP p) a = some l → ∀ w ∈ l, w ∈ S) {w : Wo} (r : Reach p w) : w ∈ S := by
  induction r with
  | root m => exact h1 _ m
  | step _ e m ih => exact h2 _ ih _ e _ m
theorem heldP_ok {p : Pic} : ∀ e ∈ heldP p, PyData.strOk e.1.1 = true := fun e m => by
  unfold heldP at m
  rcases List.mem_append.mp m with m | m
  · obtain ⟨r, _, rfl⟩ := List.mem_map.mp m
    exact ok_box
  · obtain ⟨r, _, rfl⟩ := List.mem_map.mp m
    exact ok_go
theorem heldP_at {p : Pic} (nd : (thingsP p).Nodup) {e : Wo × List Wo} (m : e ∈ heldP p) : getA (heldP p) e.1 = some e.2 := heldP_get nd m
/-- whether a list is a shut set -/
def shutB (p : Pic) (l : List Wo) : Bool := (l.all fun w => decide (w ∈ thingsP p)) && ((rootsP p).all fun w => !decide (w ∈ l)) && (heldP p).all fun e => decide (e.1 ∈ l) || !(e.2.any fun w => decide (w ∈ l))
theorem shut_swap (p : Pic) (l : List Wo) : ((l.all fun w => decide (w ∈ thingsP p) && !decide (w ∈ rootsP p)) && (heldP p).all fun e => decide (e.1 ∈ l) || !(e.2.any fun w => decide (w ∈ l))) = shutB p l := by
  unfold shutB
  congr 1
  rw [Bool.eq_iff_iff, Bool.and_eq_true, List.all_eq_true, List.all_eq_true, List.all_eq_true]
  constructor
  · intro h
    refine ⟨fun w m => ?_, fun w m => ?_⟩
    · have := h w m
      rw [Bool.and_eq_true] at this
      exact this.1
    · rw [Bool.not_eq_true', decide_eq_false_iff_not]
      intro m2
      have := h w m2
      rw [Bool.and_eq_true, Bool.not_eq_true', decide_eq_false_iff_not] at this
      exact this.2 m
  · rintro ⟨h1, h2⟩ w m
    rw [Bool.and_eq_true, Bool.not_eq_true', decide_eq_false_iff_not]
    refine ⟨h1 w m, fun m2 => ?_⟩
    have := h2 w m2
    rw [Bool.not_eq_true', decide_eq_false_iff_not] at this
    exact this m
/-- from which one comes to t -/
inductive Comes (p : Pic) (t : Wo) : Wo → Prop
  | refl : Comes p t t
  | step {a w : Wo} {l : List Wo} : getA (heldP p) a = some l → w ∈ l → Comes p t w → Comes p t a
structure Behind (p : Pic) (t : Wo) (l : List Wo) : Prop where
  here : t ∈ l
  comes : ∀ w ∈ l, Comes p t w
  back : ∀ a hs, getA (heldP p) a = some hs → (∃ w ∈ hs, w ∈ l) → a ∈ l
  nd : l.Nodup
  th : ∀ w ∈ l, w = t ∨ w ∈ thingsP p
theorem len_behind {p : Pic} {t : Wo} {l : List Wo} (nd : l.Nodup) (h : ∀ w ∈ l, w = t ∨ w ∈ thingsP p) : l.length ≤ (thingsP p).length + 1 := by
  have := nodup_le (B := t :: thingsP p) nd fun w m => (h w m).elim (fun e => e ▸ List.mem_cons_self) (List.mem_cons_of_mem _)
  rw [List.length_cons] at this
  exact this
end G

namespace G
open PySem PySem.Spec PyProof.Rows L2
/-! ### xs[lo::2] -/
def tStepL (K : PySem.W.Frag) (te : TE) (tl : TO) : TE := fun σ H Q => te σ H fun x H1 => tl σ H1 fun _ H2 => ∃ a xs, x = .ref a ∧ SqL K H2 a xs ∧ ∀ p ys, (∀ y ∈ ys, y ∈ xs) → ys.length ≤ xs.length → H2 p = none → Q (.ref p) (upd H2 p (.lst ys))
theorem vals_pick {xs : List V} {its : List Value} (r : Vals xs its) : ∀ l : List Nat, Vals (l.filterMap (xs[·]?)) (l.filterMap (its.toArray[·]?))
  | [] => .nil
  | i :: l => by
    have ih := vals_pick r l
    rw [List.filterMap_cons, List.filterMap_cons]
    cases e : xs[i]? with
    | none =>
      have := r.none_of e
      rw [show its.toArray[i]? = none by simpa using this]
      exact ih
    | some x =>
      obtain ⟨u, eu, ru⟩ := r.get e
      rw [show its.toArray[i]? = some u by simpa using eu]
      exact .cons ru ih
theorem pick_len {α : Type} (xs : List α) : ∀ l : List Nat, (l.filterMap (xs[·]?)).length ≤ l.length := fun l => List.length_filterMap_le _ _
theorem pe_step2 {X : Cx} {e : PySem.Expr} {te : TE} {lo : Option PySem.Expr} {tl : TO} {k : Nat} {p1 p3 pos : Pos} (he : PE X e te) (hl : PO X lo tl) : PE X (.Subscript e (.Slice lo none (some (.Constant (.int 2) k p1)) p3) pos) (tStepL X.K te tl) := by
  refine ⟨fun pins s σ H Q I h => ?_⟩
  refine Subscript_ (thn (he.run pins s σ H _ I h) fun v s1 ⟨x, H1, I1, r1, q1⟩ => ?_)
  have hst : PO X (some (.Constant (.int 2) k p1)) (tPart (tC (.int 2))) := po_some pe_int
  refine wpAny_Slice (thn (hl.run pins s1 σ H1 _ I1 q1) fun vl s2 ⟨l, H2, I2, pl, q2⟩ => ?_)
  obtain ⟨a, xs, ex, hx, q⟩ := q2
  subst ex
  cases r1
  refine thn (po_none.run pins s2 σ H2 (fun o H3 => o = none ∧ H3 = H2) I2 ⟨rfl, rfl⟩) fun vu s3 ⟨u, H3, I3, pu, eu, e3⟩ => ?_
  subst eu e3
  refine thn (hst.run pins s3 σ H3 (fun o H4 => o = some 2 ∧ H4 = H3) I3 ⟨2, rfl, rfl, rfl⟩) fun vs s4 ⟨o, H4, I4, ps, eo, e4⟩ => ?_
  subst eo e4
  have I5 : L2.Inv X pins σ H4 { s4 with heap := s4.heap.push { cls := .type "slice", data := .fields #[vl, vu, vs] } } := I4.kept (t' := s4.toks) fun b ob q => Heap.get?_push_of_some _ q
  obtain ⟨its, r, ht, hz⟩ := I5.list hx
  have hlen := r.length
  show wpAny (model X.prog X.w) X.A (subscriptTail e (.Slice lo none (some (.Constant (.int 2) k p1)) p3) (.ref a) (.ref s4.heap.objs.size)) (L2.EP X pins σ Q) X.xe { s4 with heap := s4.heap.push { cls := .type "slice", data := .fields #[vl, vu, vs] } }
  refine tail_any (ops := [.ref a, .ref s4.heap.objs.size]) ht.isList.typeIs (PySem.slot_list_getitem.lookup) ?_ (by with_unfolding_all rfl)
  refine wpAny_getItem_list_slice ht.isList (Heap.IsSliceOf.new _ vl vu vs) pl pu ps (by decide) ?_ (by rw [List.size_toArray]; omega)
  have hb : (sliceRange (sliceBounds l none (some 2) its.toArray.size).1 (sliceBounds l none (some 2) its.toArray.size).2.1 (sliceBounds l none (some 2) its.toArray.size).2.2).length ≤ its.length := by
    have := sliceRange_length_le (sliceBounds l none (some 2) its.toArray.size).1 (sliceBounds l none (some 2) its.toArray.size).2.1 (sliceBounds l none (some 2) its.toArray.size).2.2 its.toArray.size ?_ ?_
    · rw [List.size_toArray] at this ⊢
      exact this
    · intro _
      refine ⟨?_, ?_⟩
      · unfold sliceBounds
        cases l with
        | none => simp
        | some i => simp; omega
      · unfold sliceBounds
        simp
    · intro h
      exact absurd (show (sliceBounds l none (some 2) its.toArray.size).2.2 > 0 from by unfold sliceBounds; simp) h
  unfold slicePick
  generalize sliceRange _ _ _ = idx at hb ⊢
  have lz : (idx.filterMap (xs[·]?)).length ≤ xs.length := by
    have := pick_len xs idx
    omega
  refine ⟨.ref _, _, I5.laid (t' := s4.toks) (o := .lst (idx.filterMap (xs[·]?))) (fun b ob q => Heap.get?_push_of_some _ q) (Nat.le_refl _) ?_, rfl, q _ _ (fun y my => ?_) lz (I5.hok.fresh (Nat.le_refl _))⟩
  · exact ⟨by omega, _, 0, vals_pick r idx, Heap.get?_push_size _ rfl⟩
  · obtain ⟨i, _, ei⟩ := List.mem_filterMap.mp my
    exact List.mem_of_getElem? ei
end G
namespace G
open PySem L2
abbrev StepG (K : PySem.W.Frag) (x : V) (H : Hp) (Q : VK) : Prop := ∃ a xs, x = .ref a ∧ SqL K H a xs ∧ ∀ p ys, (∀ y ∈ ys, y ∈ xs) → ys.length ≤ xs.length → H p = none → Q (.ref p) (upd H p (.lst ys))
theorem r_step2 {K : PySem.W.Frag} {te : TE} {tl : TO} {σ : L2.St} {H : Hp} {Q : VK} (h : te σ H fun x H1 => tl σ H1 fun _ H2 => StepG K x H2 Q) : tStepL K te tl σ H Q := h
/-- a part of the script -/
theorem r_cells {K : PySem.W.Frag} {a : Addr} {ns : List Int} {H : Hp} {Q : VK} (h : SqL K H a (ns.map V.int)) (q : ∀ (p : Addr) (ms : List Int) (H' : Hp), ms.length ≤ ns.length → H p = none → Same H H' → H' p = some (.lst (ms.map V.int)) → Q (.ref p) H') : StepG K (.ref a) H Q := by
  refine ⟨a, _, rfl, h, fun p ys hy hl hp => ?_⟩
  have : ∀ zs : List V, (∀ y ∈ zs, y ∈ ns.map V.int) → ∃ ms : List Int, zs = ms.map V.int := by
    intro zs
    induction zs with
    | nil => exact fun _ => ⟨[], rfl⟩
    | cons z r ih =>
      intro h
      obtain ⟨ms, e⟩ := ih fun y m => h y (List.mem_cons_of_mem _ m)
      obtain ⟨i, _, ei⟩ := List.mem_map.mp (h z List.mem_cons_self)
      exact ⟨i :: ms, by rw [e, ← ei]; rfl⟩
  obtain ⟨ms, e⟩ := this ys hy
  rw [List.length_map] at hl
  exact q p ms _ (by have := congrArg List.length e; rw [List.length_map] at this; omega) hp (same_new hp) (by rw [upd_same, e])
end G

namespace G
open PySem L2 TL
open Dat (At enc)
/-! ### chains of things -/
def cw (k : Nat) : Wo := if k % 2 = 0 then ("go", ((k / 2 : Nat) : Int)) else ("box", ((k / 2 : Nat) : Int))
def nxw (m : Nat) (l : Wo) (k : Nat) : Wo := if k + 1 < m then cw (k + 1) else l
theorem cw_even (i : Nat) : cw (2 * i) = (("go", (i : Int)) : Wo) := by
  unfold cw
  rw [if_pos (by omega), show 2 * i / 2 = i by omega]
theorem cw_odd (i : Nat) : cw (2 * i + 1) = (("box", (i : Int)) : Wo) := by
  unfold cw
  rw [if_neg (by omega), show (2 * i + 1) / 2 = i by omega]
theorem cw_T (k : Nat) : isT (cw k) = true := by
  unfold cw
  split
  · exact isT_go
  · exact isT_box
theorem cw_W (k : Nat) : isW (cw k).1 (cw k).2 = true := by
  unfold cw
  split
  · exact isW_go (Int.natCast_nonneg _)
  · exact isW_box (Int.natCast_nonneg _)
theorem cw_ok (k : Nat) : PyData.strOk (cw k).1 = true := by
  unfold cw
  split
  · exact ok_go
  · exact ok_box
def chGo (m : Nat) (l : Wo) (i : Nat) : Going := ⟨(i : Int), ((2 * i % 7 : Nat) : Int), [nxw m l (2 * i)]⟩
def chBo (m : Nat) (l : Wo) (i : Nat) : Int × Wo := ((i : Int), nxw m l (2 * i + 1))
def chPic (m : Nat) (l : Wo) (pw : List Wo) (pg : List (Str × Wo)) (g0 : List Wo) : Pic := ⟨pw, pg, ⟨0, 0, g0⟩ :: (List.range ((m + 1) / 2 - 1)).map (fun i => chGo m l (i + 1)), (List.range (m / 2)).map (chBo m l)⟩
theorem chain_good {m : Nat} (m0 : 1 ≤ m) (m1 : m ≤ 120) {l : Wo} {pw : List Wo} {pg : List (Str × Wo)} {g0 : List Wo} (hl : (∃ j, j < m ∧ l = cw j) ∨ Pl l) (hp : ∀ w ∈ pw, ∃ j, j < m ∧ w = cw j) (lp : pw.length ≤ 1)
    (hg : pg = [] ∨ ∃ j, j < m ∧ pg = [((("a" : Str), cw j) : Str × Wo)]) (k0 : nxw m l 0 ∈ g0) (k1 : ∀ w ∈ g0, w = nxw m l 0 ∨ w = cw 0) (lg : g0.length ≤ 2) (h0 : cw 0 ∈ pw ∨ l = cw 0 ∨ cw 0 ∈ g0) :
    GoodPic (chPic m l pw pg g0) ∧ (standingP (chPic m l pw pg g0)).length ≤ 5000 := by
  have kn : ∀ k, (∃ j, j < m ∧ nxw m l k = cw j) ∨ Pl (nxw m l k) := fun k => by
    unfold nxw
    split
    · exact .inl ⟨_, by assumption, rfl⟩
    · exact hl
  have wn : ∀ k, isW (nxw m l k).1 (nxw m l k).2 = true := fun k => by
    rcases kn k with ⟨j, _, e⟩ | h
    · rw [e]
      exact cw_W j
    · exact h.1
  have lpg : pg.length ≤ 1 := by
    rcases hg with e | ⟨j, _, e⟩
    · rw [e]
      exact Nat.zero_le _
    · rw [e]
      exact Nat.le_refl 1
  have th : ∀ w, w ∈ thingsP (chPic m l pw pg g0) ↔ ∃ k, k < m ∧ w = cw k := fun w => by
    unfold thingsP chPic
    rw [List.mem_append]
    constructor
    · rintro (h | h)
      · obtain ⟨r, mr, e⟩ := List.mem_map.mp h
        obtain ⟨i, mi, e2⟩ := List.mem_map.mp mr
        have := List.mem_range.mp mi
        exact ⟨2 * i + 1, by omega, by rw [cw_odd, ← e, ← e2]; rfl⟩
      · obtain ⟨r, mr, e⟩ := List.mem_map.mp h
        rcases List.mem_cons.mp mr with e2 | mr
        · exact ⟨0, by omega, by rw [← e, e2]; rfl⟩
        · obtain ⟨i, mi, e2⟩ := List.mem_map.mp mr
          have := List.mem_range.mp mi
          exact ⟨2 * (i + 1), by omega, by rw [cw_even, ← e, ← e2]; rfl⟩
    · rintro ⟨k, hk, e⟩
      by_cases p : k % 2 = 0
      · right
        obtain ⟨i, rfl⟩ : ∃ i, k = 2 * i := ⟨k / 2, by omega⟩
        rw [cw_even] at e
        rw [e]
        cases i with
        | zero => exact List.mem_map.mpr ⟨_, List.mem_cons_self, rfl⟩
        | succ i => exact List.mem_map.mpr ⟨chGo m l (i + 1), List.mem_cons_of_mem _ (List.mem_map.mpr ⟨i, List.mem_range.mpr (by omega), rfl⟩), rfl⟩
      · left
        obtain ⟨i, rfl⟩ : ∃ i, k = 2 * i + 1 := ⟨k / 2, by omega⟩
        rw [cw_odd] at e
        rw [e]
        exact List.mem_map.mpr ⟨chBo m l i, List.mem_map.mpr ⟨i, List.mem_range.mpr (by omega), rfl⟩, rfl⟩
  have st : ∀ w, w ∈ standingP (chPic m l pw pg g0) ↔ w ∈ pw ∨ (∃ q ∈ pg, q.2 = w) ∨ (∃ i, i < m / 2 ∧ w = nxw m l (2 * i + 1)) ∨ w ∈ g0 ∨ ∃ i, i < (m + 1) / 2 - 1 ∧ w = nxw m l (2 * (i + 1)) := fun w => by
    unfold standingP chPic
    rw [List.mem_append, List.mem_append, List.mem_append, List.mem_map, List.map_cons, List.flatten_cons, List.mem_append, List.mem_flatten, or_assoc, or_assoc]
    refine or_congr Iff.rfl (or_congr Iff.rfl (or_congr ?_ (or_congr Iff.rfl ?_)))
    · constructor
      · intro h
        obtain ⟨r, mr, e⟩ := List.mem_map.mp h
        obtain ⟨i, mi, e2⟩ := List.mem_map.mp mr
        exact ⟨i, List.mem_range.mp mi, by rw [← e, ← e2]; rfl⟩
      · rintro ⟨i, hi, e⟩
        exact List.mem_map.mpr ⟨chBo m l i, List.mem_map.mpr ⟨i, List.mem_range.mpr hi, rfl⟩, e.symm⟩
    · constructor
      · rintro ⟨r, mr, mw⟩
        obtain ⟨g, mg, e⟩ := List.mem_map.mp mr
        obtain ⟨i, mi, e2⟩ := List.mem_map.mp mg
        rw [← e, ← e2] at mw
        exact ⟨i, List.mem_range.mp mi, List.mem_singleton.mp mw⟩
      · rintro ⟨i, hi, e⟩
        exact ⟨[nxw m l (2 * (i + 1))], List.mem_map.mpr ⟨chGo m l (i + 1), List.mem_map.mpr ⟨i, List.mem_range.mpr hi, rfl⟩, rfl⟩, by rw [e]; exact List.mem_singleton.mpr rfl⟩
  have hm : ∀ w, w ∈ thingsP (chPic m l pw pg g0) ↔ w ∈ standingP (chPic m l pw pg g0) ∧ isT w = true := fun w => by
    rw [th, st]
    have back : ∀ k, isT (nxw m l k) = true → ∃ j, j < m ∧ nxw m l k = cw j := fun k t => by
      rcases kn k with h | h
      · exact h
      · rw [h.2] at t
        cases t
    constructor
    · rintro ⟨k, hk, e⟩
      refine ⟨?_, by rw [e]; exact cw_T k⟩
      cases k with
      | zero =>
        rw [e]
        rcases h0 with h | h | h
        · exact .inl h
        · have en : nxw m l (m - 1) = cw 0 := by
            unfold nxw
            rw [if_neg (by omega), h]
          by_cases p : (m - 1) % 2 = 0
          · by_cases z : m = 1
            · subst z
              exact .inr (.inr (.inr (.inl (en ▸ k0))))
            · exact .inr (.inr (.inr (.inr ⟨(m - 1) / 2 - 1, by omega, by rw [show 2 * ((m - 1) / 2 - 1 + 1) = m - 1 by omega, en]⟩)))
          · exact .inr (.inr (.inl ⟨(m - 1) / 2, by omega, by rw [show 2 * ((m - 1) / 2) + 1 = m - 1 by omega, en]⟩))
        · exact .inr (.inr (.inr (.inl h)))
      | succ k =>
        have en : nxw m l k = cw (k + 1) := by
          unfold nxw
          rw [if_pos hk]
        rw [e, ← en]
        by_cases p : k % 2 = 0
        · by_cases z : k = 0
          · subst z
            exact .inr (.inr (.inr (.inl k0)))
          · exact .inr (.inr (.inr (.inr ⟨k / 2 - 1, by omega, by rw [show 2 * (k / 2 - 1 + 1) = k by omega]⟩)))
        · exact .inr (.inr (.inl ⟨k / 2, by omega, by rw [show 2 * (k / 2) + 1 = k by omega]⟩))
    · rintro ⟨h | ⟨q, mq, e⟩ | ⟨i, hi, e⟩ | h | ⟨i, hi, e⟩, t⟩
      · exact hp w h
      · rcases hg with e2 | ⟨j, hj, e2⟩
        · rw [e2] at mq
          cases mq
        · rw [e2, List.mem_singleton] at mq
          exact ⟨j, hj, by rw [← e, mq]⟩
      · rw [e] at t ⊢
        exact back _ t
      · rcases k1 w h with e | e
        · rw [e] at t ⊢
          exact back _ t
        · exact ⟨0, by omega, e⟩
      · rw [e] at t ⊢
        exact back _ t
  have rp : ∀ n : Nat, ((List.range n).map fun i : Nat => (i : Int)).Pairwise fun a b => decide (a < b) = true := fun n => by
    rw [List.pairwise_map]
    exact List.pairwise_lt_range.imp fun h => decide_eq_true (by omega)
  have rc : riseI ((⟨0, 0, g0⟩ :: (List.range ((m + 1) / 2 - 1)).map (fun i => chGo m l (i + 1)) : List Going).map (·.a)) = true := by
    have e : ((⟨0, 0, g0⟩ :: (List.range ((m + 1) / 2 - 1)).map (fun i => chGo m l (i + 1)) : List Going).map (·.a)) = (List.range ((m + 1) / 2 - 1 + 1)).map fun i : Nat => (i : Int) := by
      rw [List.range_succ_eq_map, List.map_cons, List.map_cons, List.map_map, List.map_map]
      rfl
    rw [e]
    exact rise_of (r := fun a b => decide (a < b)) (rp _)
  have rd : riseI (((List.range (m / 2)).map (chBo m l)).map (·.1)) = true := by
    rw [List.map_map]
    exact rise_of (r := fun a b => decide (a < b)) (rp _)
  have ha : isPileW pw = true := by
    unfold isPileW
    rw [List.all_eq_true]
    intro w mw
    obtain ⟨j, _, e⟩ := hp w mw
    rw [e]
    exact cw_W j
  have hb : arePegs pg = true := by
    rcases hg with e | ⟨j, _, e⟩
    · rw [e]
      rfl
    · rw [e]
      unfold arePegs
      rw [List.all_cons, cw_W, show isName "a" = true by decide +kernel]
      rfl
  have hc : areGoings (⟨0, 0, g0⟩ :: (List.range ((m + 1) / 2 - 1)).map (fun i => chGo m l (i + 1))) = true := by
    unfold areGoings
    rw [rc, Bool.and_true, List.all_cons, Bool.and_eq_true]
    constructor
    · show (decide ((0 : Int) ≤ 0) && (decide ((0 : Int) ≤ 0) && isPileW g0)) = true
      rw [show isPileW g0 = true from by
        unfold isPileW
        rw [List.all_eq_true]
        intro w mw
        rcases k1 w mw with e | e
        · rw [e]
          exact wn 0
        · rw [e]
          exact cw_W 0]
      rfl
    · rw [List.all_map, List.all_eq_true]
      intro i _
      show (decide ((0 : Int) ≤ ((i + 1 : Nat) : Int)) && (decide ((0 : Int) ≤ ((2 * (i + 1) % 7 : Nat) : Int)) && isPileW [nxw m l (2 * (i + 1))])) = true
      rw [decide_eq_true (Int.natCast_nonneg _), decide_eq_true (Int.natCast_nonneg _)]
      unfold isPileW
      rw [List.all_cons, wn]
      rfl
  have hd : areBoxes ((List.range (m / 2)).map (chBo m l)) = true := by
    unfold areBoxes
    rw [rd, Bool.and_true, List.all_map, List.all_eq_true]
    intro i _
    show (decide ((0 : Int) ≤ ((i : Nat) : Int)) && isW (nxw m l (2 * i + 1)).1 (nxw m l (2 * i + 1)).2) = true
    rw [decide_eq_true (Int.natCast_nonneg _), wn]
    rfl
  have ls : (standingP (chPic m l pw pg g0)).length ≤ 200 := by
    unfold standingP chPic
    have e : ∀ n : Nat, (((List.range n).map fun i => chGo m l (i + 1)).map (·.c)).flatten.length = n := fun n => by
      rw [List.map_map, List.length_flatten, List.map_map]
      show ((List.range n).map fun _ => 1).sum = n
      rw [List.map_const', List.sum_replicate_nat, List.length_range, Nat.mul_one]
    rw [List.length_append, List.length_append, List.length_append, List.map_cons, List.flatten_cons, List.length_append, e, List.length_map, List.length_map, List.length_map, List.length_range]
    show pw.length + pg.length + m / 2 + (g0.length + _) ≤ 200
    omega
  refine ⟨⟨isPic_mk ha hb hc hd hm, by show pw.length ≤ 600; omega, by show pg.length ≤ 200; omega, ?_, ?_, by omega⟩, by omega⟩
  · show (List.length (_ :: _)) ≤ 130
    rw [List.length_cons, List.length_map, List.length_range]
    omega
  · show ((List.range (m / 2)).map (chBo m l)).length ≤ 130
    rw [List.length_map, List.length_range]
    omega
/-- range(a, m, 2) -/
theorem rg2 {a m : Nat} (h : m ≤ 1000) (ha : a ≤ 1) : RgC (a : Int) (m : Int) 2 ((m + 1 - a) / 2) := by
  have e : Builtin.Range.rangeSize (a : Int) (m : Int) 2 = (((m + 1 - a) / 2 : Nat) : Int) := by
    unfold Builtin.Range.rangeSize
    rw [if_pos (by decide)]
    split <;> omega
  refine ⟨by decide, by decide, ?_, e⟩
  have ft : ∀ i : Int, -5000 ≤ i → i ≤ 5000 → Builtin.Range.rangeFitsLong i = true := fun i h1 h2 => by
    unfold Builtin.Range.rangeFitsLong
    rw [decide_eq_true (show -(2 ^ 63 : Int) ≤ i by omega), decide_eq_true (show i < (2 ^ 63 : Int) by omega)]
    rfl
  unfold Builtin.Range.small
  rw [e, ft _ (by omega) (by omega), ft _ (by omega) (by omega), ft _ (by omega) (by omega), ft _ (by omega) (by omega), if_pos (by decide), ft _ (by omega) (by omega)]
  simp
end G
namespace G
open PySem L2 TL
open Dat (At enc)
theorem nexts_get {m k : Nat} {l : Wo} (h : k < m) : (((List.range m).map cw).drop 1 ++ [l])[k]? = some (nxw m l k) := by
  unfold nxw
  by_cases c : k + 1 < m
  · rw [if_pos c, List.getElem?_append_left (by rw [List.length_drop, List.length_map, List.length_range]; omega), List.getElem?_drop, List.getElem?_map, List.getElem?_range (by omega), Nat.add_comm 1 k]
    rfl
  · rw [if_neg c, List.getElem?_append_right (by rw [List.length_drop, List.length_map, List.length_range]; omega), List.length_drop, List.length_map, List.length_range, show k - (m - 1) = 0 by omega]
    rfl
/-- the list of goings under way: the first going's row may change -/
structure GI (ns : List Addr) (H : Hp) (w0 : Wo) (gs : Nat → Going) (D : Addr) (i : Nat) (H1 : Hp) : Prop where
  D0 : H D = none
  same : Same H H1
  st : (i = 0 ∧ H1 D = some (.lst [])) ∨ (0 < i ∧ ∃ (t0 r0 : Addr) (ys : List V), H t0 = none ∧ H r0 = none ∧ D ≠ r0 ∧ D ≠ t0 ∧ t0 ≠ r0 ∧ H1 D = some (.lst (.ref t0 :: ys)) ∧ H1 t0 = some (.tup [.int 0, .int 0, .ref r0]) ∧ Own (r0 :: D :: ns) H1 r0 [w0] ∧ Ats (del (r0 :: D :: ns) H1) ys ((List.range (i - 1)).map fun j => gs (j + 1)))
section
variable {ns : List Addr} {H H1 H2 H3 : Hp} {w0 : Wo} {gs : Nat → Going} {D t0 r0 : Addr} {i : Nat} {y : V} {acc : List V}
theorem GI.zero (hD : H D = none) : GI ns H w0 gs D 0 (upd H D (.lst [])) := ⟨hD, same_new hD, .inl ⟨rfl, upd_same⟩⟩
theorem GI.fr0 (lv : Live ns H) (g : GI ns H w0 gs D 0 H1) : Fr ns H (D :: ns) H1 := by
  refine .more lv g.D0 g.same ?_
  rcases g.st with ⟨_, e⟩ | ⟨h, _⟩
  · exact .lst e
  · exact absurd h (by omega)
theorem GI.frN (lv : Live ns H) (hD : H D = none) (hr : H r0 = none) (s : Same H H1) (tD : Lv H1 D) (tr : Lv H1 r0) : Fr ns H (r0 :: D :: ns) H1 :=
  Fr.mores (W := [r0, D]) lv s (fun p m => by
    rcases List.mem_cons.mp m with rfl | m
    · exact hr
    · rw [List.mem_singleton.mp m]
      exact hD) (fun p m => by
    rcases List.mem_cons.mp m with rfl | m
    · exact tr
    · rw [List.mem_singleton.mp m]
      exact tD)
/-- the first one -/
theorem GI.first (g : GI ns H w0 gs D 0 H1) (h0 : H1 r0 = none) (s12 : Same H1 H2) (o : Own (r0 :: D :: ns) H2 r0 [w0]) (lv : Live (r0 :: D :: ns) H2) (ht : H2 t0 = none) :
    ∃ acc, (upd H2 t0 (.tup [.int 0, .int 0, .ref r0])) D = some (.lst acc) ∧ acc.length < sizeLine ∧ GI ns H w0 gs D 1 (upd (upd H2 t0 (.tup [.int 0, .int 0, .ref r0])) D (.lst (acc ++ [.ref t0]))) := by
  have eD : H1 D = some (.lst []) := by
    rcases g.st with ⟨_, e⟩ | ⟨h, _⟩
    · exact e
    · exact absurd h (by omega)
  have nDr : D ≠ r0 := ne_of_none eD h0
  have eD2 := s12 _ _ eD
  have nDt : D ≠ t0 := ne_of_none eD2 ht
  have s3 : Same H2 (upd H2 t0 (.tup [.int 0, .int 0, .ref r0])) := same_new ht
  have ntr : t0 ≠ r0 := fun e => by
    obtain ⟨ys, e1, _⟩ := o
    rw [← e, ht] at e1
    cases e1
  have lv3 := lv.same s3
  have o3 := o.fr (.of lv s3) fun o e => s3 _ _ e
  have e3 : (upd H2 t0 (.tup [.int 0, .int 0, .ref r0])) t0 = some (.tup [.int 0, .int 0, .ref r0]) := upd_same
  have tn : H t0 = none := (g.same.trans s12).free ht
  have eD3 := s3 _ _ eD2
  have sH := (g.same.trans s12).trans s3
  generalize upd H2 t0 (.tup [.int 0, .int 0, .ref r0]) = H3 at s3 lv3 o3 e3 eD3 sH ⊢
  have p : Fr (r0 :: D :: ns) H3 (r0 :: D :: ns) (upd H3 D (.lst ([] ++ [.ref t0]))) := .put lv3 (by simp) (fun _ e => by cases e)
  refine ⟨[], eD3, by show 0 < sizeLine; decide, g.D0, But.back sH g.D0 But.upd, .inr ⟨by omega, t0, r0, [], tn, g.same.free h0, nDr, nDt, ntr, upd_same, ?_, ?_, .nil⟩⟩
  · rw [upd_ne nDt.symm]
    exact e3
  · exact o3.fr p fun o e => by rw [upd_ne nDr.symm]; exact e
theorem GI.next {ys : List V} (D0 : H D = none) (sH : Same H H1) (hi : 0 < i) (hi2 : i ≤ 1000) (ht : H t0 = none) (hr : H r0 = none) (nDr : D ≠ r0) (nDt : D ≠ t0) (ntr : t0 ≠ r0) (eD : H1 D = some (.lst (.ref t0 :: ys))) (e0 : H1 t0 = some (.tup [.int 0, .int 0, .ref r0])) (o : Own (r0 :: D :: ns) H1 r0 [w0])
    (as : Ats (del (r0 :: D :: ns) H1) ys ((List.range (i - 1)).map fun j => gs (j + 1))) (lv : Live (r0 :: D :: ns) H1) (s12 : Same H1 H2) (a : At (del (r0 :: D :: ns) H2) y (gs i)) :
    ∃ acc, H2 D = some (.lst acc) ∧ acc.length < sizeLine ∧ GI ns H w0 gs D (i + 1) (upd H2 D (.lst (acc ++ [y]))) := by
  have lv2 := lv.same s12
  have p : Fr (r0 :: D :: ns) H2 (r0 :: D :: ns) (upd H2 D (.lst ((.ref t0 :: ys) ++ [y]))) := .put lv2 (by simp) (fun _ e => by cases e)
  have ly := as.len
  rw [List.length_map, List.length_range] at ly
  refine ⟨_, s12 _ _ eD, szl (by rw [List.length_cons]; omega), D0, But.back (sH.trans s12) D0 But.upd, .inr ⟨by omega, t0, r0, ys ++ [y], ht, hr, nDr, nDt, ntr, upd_same, ?_, ?_, ?_⟩⟩
  · rw [upd_ne nDt.symm]
    exact s12 _ _ e0
  · exact (o.fr (.of lv s12) fun o e => s12 _ _ e).fr p fun o e => by rw [upd_ne nDr.symm]; exact e
  · have : (List.range (i + 1 - 1)).map (fun j => gs (j + 1)) = (List.range (i - 1)).map (fun j => gs (j + 1)) ++ [gs i] := by
      rw [show i + 1 - 1 = (i - 1) + 1 by omega, List.range_succ, List.map_append, List.map_cons, show i - 1 + 1 = i by omega]
      rfl
    rw [this]
    exact (p.ats ((Fr.of lv s12).ats as)).app (.one (p.at_ a))
end
theorem cw_pick {j : Nat} : atI [((("go" : Str), (0 + (j : Int)) / 2) : Wo), ((("box" : Str), (0 + (j : Int)) / 2) : Wo)] ((0 + (j : Int)) % 2) = some (cw j) := by
  have e : (0 + (j : Int)) / 2 = ((j / 2 : Nat) : Int) := by omega
  rw [e]
  unfold cw
  by_cases c : j % 2 = 0
  · rw [if_pos c, show (0 + (j : Int)) % 2 = 0 by omega]
    rfl
  · rw [if_neg c, show (0 + (j : Int)) % 2 = 1 by omega]
    rfl
theorem chain_all {m : Nat} (m0 : 1 ≤ m) (m1 : m ≤ 120) {way : Int} (y0 : 0 ≤ way) (y1 : way < 5) {ai : Nat} (hai : ai < m) {l : Wo} {pw : List Wo} {pg : List (Str × Wo)} {g0 : List Wo}
    (el : atI [((("num" : Str), (5 : Int)) : Wo), cw 0, cw 0, cw ai, ((("at" : Str), (2 : Int)) : Wo)] way = some l) (ep : atI [[cw 0], [], [], [cw 0], [cw ai]] way = some pw) (eg : atI ([[], [(("a" : Str), cw ai)], [], [], []] : List (List (Str × Wo))) way = some pg)
    (k0 : nxw m l 0 ∈ g0) (k1 : ∀ w ∈ g0, w = nxw m l 0 ∨ w = cw 0) (lg : g0.length ≤ 2) (h4 : way = 4 → cw 0 ∈ g0) : GoodPic (chPic m l pw pg g0) ∧ (standingP (chPic m l pw pg g0)).length ≤ 5000 ∧ pw.length ≤ 1 := by
  have one : ∀ {k : Nat}, k < m → ∀ w ∈ [cw k], ∃ j, j < m ∧ w = cw j := fun h w mw => ⟨_, h, List.mem_singleton.mp mw⟩
  have c : way = 0 ∨ way = 1 ∨ way = 2 ∨ way = 3 ∨ way = 4 := by omega
  rcases c with rfl | rfl | rfl | rfl | rfl
  · obtain rfl : ((("num" : Str), (5 : Int)) : Wo) = l := Option.some.inj el
    obtain rfl : [cw 0] = pw := Option.some.inj ep
    obtain rfl : [] = pg := Option.some.inj eg
    have := chain_good m0 m1 (.inr ⟨isW_num, isT_num⟩) (one (by omega)) (Nat.le_refl 1) (.inl rfl) k0 k1 lg (.inl (List.mem_singleton.mpr rfl))
    exact ⟨this.1, this.2, Nat.le_refl 1⟩
  · obtain rfl : cw 0 = l := Option.some.inj el
    obtain rfl : [] = pw := Option.some.inj ep
    obtain rfl : [((("a" : Str), cw ai) : Str × Wo)] = pg := Option.some.inj eg
    have := chain_good m0 m1 (.inl ⟨0, by omega, rfl⟩) (pw := []) (fun w mw => by cases mw) (Nat.zero_le _) (.inr ⟨ai, hai, rfl⟩) k0 k1 lg (.inr (.inl rfl))
    exact ⟨this.1, this.2, Nat.zero_le _⟩
  · obtain rfl : cw 0 = l := Option.some.inj el
    obtain rfl : [] = pw := Option.some.inj ep
    obtain rfl : [] = pg := Option.some.inj eg
    have := chain_good m0 m1 (.inl ⟨0, by omega, rfl⟩) (pw := []) (fun w mw => by cases mw) (Nat.zero_le _) (.inl rfl) k0 k1 lg (.inr (.inl rfl))
    exact ⟨this.1, this.2, Nat.zero_le _⟩
  · obtain rfl : cw ai = l := Option.some.inj el
    obtain rfl : [cw 0] = pw := Option.some.inj ep
    obtain rfl : [] = pg := Option.some.inj eg
    have := chain_good m0 m1 (.inl ⟨ai, hai, rfl⟩) (one (by omega)) (Nat.le_refl 1) (.inl rfl) k0 k1 lg (.inl (List.mem_singleton.mpr rfl))
    exact ⟨this.1, this.2, Nat.le_refl 1⟩
  · obtain rfl : ((("at" : Str), (2 : Int)) : Wo) = l := Option.some.inj el
    obtain rfl : [cw ai] = pw := Option.some.inj ep
    obtain rfl : [] = pg := Option.some.inj eg
    have := chain_good m0 m1 (.inr ⟨isW_at (by decide), isT_at⟩) (one hai) (Nat.le_refl 1) (.inl rfl) k0 k1 lg (.inr (.inr (h4 rfl)))
    exact ⟨this.1, this.2, Nat.le_refl 1⟩
end G

namespace G
open PySem L2 TL
open Dat (At enc)
section
variable {α : Type} [Dat α] {H : Hp} {ns : List Addr} {p : Addr} {a : α} {Q : VK}
/-- a list of what never changes may change from now on -/
theorem Own.of_at [Imm α] {l : List α} (lv : Live (p :: ns) H) (h : At (del ns H) (.ref p) l) : Own (p :: ns) H p l := by
  obtain ⟨t, xs, e, h, r⟩ := h
  cases e
  exact ⟨xs, (of_del h).1, (r.same del_sub).out lv⟩
theorem at_lv {l : List α} (h : At (del ns H) (.ref p) l) : Lv H p := by
  obtain ⟨t, xs, e, h, r⟩ := h
  cases e
  exact .lst (of_del h).1
theorem Own.at_ {l : List α} (h : Own ns H p l) : At H (.ref p) l := by
  obtain ⟨xs, e, r⟩ := h
  exact ⟨p, xs, rfl, e, r.same del_sub⟩
theorem r_popO {as : List α} (l : Live ns H) (m : p ∈ ns) (h : Own ns H p (as ++ [a])) (q : ∀ y H', Fr ns H ns H' → But p H H' → At (del ns H') y a → Own ns H' p as → Q y H') : rPop (.ref p) [] H Q := by
  obtain ⟨xs, e, r⟩ := h
  have lx := r.len
  rw [List.length_append, List.length_singleton] at lx
  obtain ⟨y, ey, hy⟩ := r.get' (i := as.length) (a := a) (by rw [List.getElem?_append_right (Nat.le_refl _), Nat.sub_self]; rfl)
  have f : Fr ns H ns (upd H p (.lst xs.dropLast)) := .put l m (fun _ e => by cases e)
  refine ⟨p, xs, y, rfl, rfl, e, by rw [lx, Nat.add_sub_cancel]; exact ey, q y _ f But.upd (f.at_ hy) ⟨_, upd_same, ?_⟩⟩
  have := r.take as.length
  rw [List.take_left] at this
  have e2 : xs.dropLast = xs.take as.length := by rw [List.dropLast_eq_take, lx, Nat.add_sub_cancel]
  have g : Ats (del ns H) xs.dropLast as := by
    rw [e2]
    exact this
  exact f.ats g
end
open Classical in
/-- what is reached, what is not -/
noncomputable def comeP (p : Pic) : List Wo := (thingsP p).filterMap fun w => if Reach p w then some w else none
open Classical in
noncomputable def lostP (p : Pic) : List Wo := (thingsP p).filterMap fun w => if Reach p w then none else some w
theorem comeP_of {p : Pic} {S : List Wo} (h : ∀ w, w ∈ S ↔ Reach p w) : ((thingsP p).filterMap fun w => if w ∈ S then some w else none) = comeP p := by
  unfold comeP
  congr 1
  funext w
  by_cases c : w ∈ S
  · rw [if_pos c, if_pos ((h w).mp c)]
  · rw [if_neg c, if_neg fun r => c ((h w).mpr r)]
theorem lostP_of {p : Pic} {S : List Wo} (h : ∀ w, w ∈ S ↔ Reach p w) : ((thingsP p).filterMap fun w => if w ∈ S then none else some w) = lostP p := by
  unfold lostP
  congr 1
  funext w
  by_cases c : w ∈ S
  · rw [if_pos c, if_pos ((h w).mp c)]
  · rw [if_neg c, if_neg fun r => c ((h w).mpr r)]
theorem mem_comeP {p : Pic} (ok : isPic p = true) {w : Wo} : w ∈ comeP p ↔ Reach p w := by
  unfold comeP
  rw [List.mem_filterMap]
  constructor
  · rintro ⟨a, _, e⟩
    by_cases c : Reach p a
    · rw [if_pos c] at e
      cases e
      exact c
    · rw [if_neg c] at e
      cases e
  · intro r
    exact ⟨w, r.thing ok, if_pos r⟩
theorem len_comeP {p : Pic} : (comeP p).length ≤ (thingsP p).length := List.length_filterMap_le _ _
theorem len_lostP {p : Pic} : (lostP p).length ≤ (thingsP p).length := List.length_filterMap_le _ _
theorem mem_lostP {p : Pic} {w : Wo} : w ∈ lostP p ↔ w ∈ thingsP p ∧ ¬ Reach p w := by
  unfold lostP
  rw [List.mem_filterMap]
  constructor
  · rintro ⟨a, m, e⟩
    by_cases c : Reach p a
    · rw [if_pos c] at e
      cases e
    · rw [if_neg c] at e
      cases e
      exact ⟨m, c⟩
  · rintro ⟨m, c⟩
    exact ⟨w, m, if_neg c⟩
theorem lost_held {p : Pic} (ok : isPic p = true) {w : Wo} (h : w ∈ lostP p) : ∃ o ∈ lostP p, ∃ hs, getA (heldP p) o = some hs ∧ w ∈ hs := by
  obtain ⟨m, nr⟩ := mem_lostP.mp h
  obtain ⟨st, t⟩ := (pic_mem ok w).mp m
  have ndt := things_nd ok
  have fin : ∀ e ∈ heldP p, w ∈ e.2 → ∃ o ∈ lostP p, ∃ hs, getA (heldP p) o = some hs ∧ w ∈ hs := fun e me mw => by
    have ge := heldP_at ndt me
    refine ⟨e.1, mem_lostP.mpr ⟨?_, fun r => nr (.step r ge mw)⟩, e.2, ge, mw⟩
    rw [← heldP_keys]
    exact List.mem_map_of_mem (f := Prod.fst) me
  unfold standingP at st
  rcases List.mem_append.mp st with st | st
  · rcases List.mem_append.mp st with st | st
    · exact absurd (Reach.root (mem_thingsOf.mpr ⟨st, t⟩)) nr
    · obtain ⟨r, mr, e⟩ := List.mem_map.mp st
      refine fin ((("box", r.1) : Wo), thingsOf [r.2]) ?_ (mem_thingsOf.mpr ⟨by rw [e]; exact List.mem_singleton.mpr rfl, t⟩)
      unfold heldP
      exact List.mem_append_left _ (List.mem_map.mpr ⟨r, mr, rfl⟩)
  · obtain ⟨l, ml, mw⟩ := List.mem_flatten.mp st
    obtain ⟨r, mr, e⟩ := List.mem_map.mp ml
    refine fin ((("go", r.a) : Wo), thingsOf r.c) ?_ (mem_thingsOf.mpr ⟨by rw [e]; exact mw, t⟩)
    unfold heldP
    exact List.mem_append_right _ (List.mem_map.mpr ⟨r, mr, rfl⟩)
/-- a ring of lost things -/
structure Ring (p : Pic) (L : List Wo) : Prop where
  ne : L ≠ []
  nd : L.Nodup
  lost : ∀ w ∈ L, w ∈ lostP p
  next : ∀ k w u, L[k]? = some w → L[(k + 1) % L.length]? = some u → ∃ hs, getA (heldP p) w = some hs ∧ u ∈ hs
theorem ring_of {p : Pic} {L : List Wo} {i : Nat} {c : Wo} (nd : L.Nodup) (hl : ∀ w ∈ L, w ∈ lostP p) (hc : L[i]? = some c) (ch : ∀ (j : Nat) (a b : Wo), L[j]? = some a → L[j + 1]? = some b → ∃ hs, getA (heldP p) b = some hs ∧ a ∈ hs)
    (la : ∀ (j : Nat) (a : Wo), j + 1 = L.length → L[j]? = some a → ∃ hs, getA (heldP p) c = some hs ∧ a ∈ hs) : Ring p (L.drop i).reverse := by
  have hi := (List.getElem?_eq_some_iff.mp hc).1
  have hn : (L.drop i).length = L.length - i := List.length_drop
  have get : ∀ k, k < L.length - i → (L.drop i).reverse[k]? = L[L.length - 1 - k]? := fun k hk => by
    rw [List.getElem?_reverse (by omega), List.getElem?_drop, hn, show i + (L.length - i - 1 - k) = L.length - 1 - k by omega]
  refine ⟨fun e => ?_, ?_, fun w mw => ?_, fun k w u hw hu => ?_⟩
  · have := congrArg List.length e
    rw [List.length_reverse, hn] at this
    simp at this
    omega
  · exact (List.reverse_perm _).nodup_iff.mpr (nd.sublist (List.drop_sublist _ _))
  · exact hl w (List.mem_of_mem_drop (List.mem_reverse.mp mw))
  · have hk : k < L.length - i := by
      have := (List.getElem?_eq_some_iff.mp hw).1
      rwa [List.length_reverse, hn] at this
    rw [get k hk] at hw
    rw [List.length_reverse, hn] at hu
    by_cases z : k + 1 = L.length - i
    · rw [z, Nat.mod_self, get 0 (by omega)] at hu
      rw [show L.length - 1 - k = i by omega, hc] at hw
      cases hw
      exact la (L.length - 1 - 0) u (by omega) hu
    · rw [Nat.mod_eq_of_lt (by omega), get (k + 1) (by omega)] at hu
      exact ch (L.length - 1 - (k + 1)) u w hu (by rw [show L.length - 1 - (k + 1) + 1 = L.length - 1 - k by omega]; exact hw)
theorem keysA {α : Type} {H : Hp} : ∀ {kvs : List (List Key × V)} {l : List (Wo × α)} {bs : List Addr}, (∀ e ∈ l, PyData.strOk e.1.1 = true) → kvs.map (·.1) = l.map (fun e => wk e.1) → IsKeys H kvs bs → Wos H (bs.map V.ref) (l.map (·.1))
  | [], [], _, _, _, h => by
    cases h
    exact .nil
  | [], _ :: _, _, _, e, _ => by simp at e
  | _ :: _, [], _, _, e, _ => by simp at e
  | kv :: r, x :: l, _, k, e, h => by
    rw [List.map_cons, List.map_cons] at e
    injection e with e1 e2
    cases h with
    | cons a b =>
      refine .cons ⟨_, rfl, ?_, k x List.mem_cons_self⟩ (keysA (fun y m => k y (List.mem_cons_of_mem _ m)) e2 b)
      rw [a, e1]
      rfl
/-- list(d), d a dict of worths -/
theorem list_K {α : Type} [Dat α] {H : Hp} {ns : List Addr} {d : Addr} {l : List (Wo × α)} (lv : Live ns H) (h : Dc ns H d l) (ok : ∀ e ∈ l, PyData.strOk e.1.1 = true) :
    ∃ kvs, Rd H d (.dT kvs) ∧ ∀ p bs, H p = none → IsKeys H kvs bs → Same H (upd H p (.lst (bs.map V.ref))) ∧ At (del ns (upd H p (.lst (bs.map V.ref)))) (.ref p) (l.map (·.1)) := by
  obtain ⟨kvs, e, r⟩ := h
  refine ⟨kvs, .inl e, fun p bs hp hk => ⟨same_new hp, ?_⟩⟩
  have w := keysA (α := α) ok r.keys hk
  exact at_of_wos (lv.same (same_new hp)) (lv.not hp) upd_same (w.same (same_new hp))
theorem far_len {p : Pic} (ok : isPic p = true) {K : List Wo} (nd : K.Nodup) (h : ∀ w, w ∈ K ↔ Reach p w) : K.length = (thingsP p).length ↔ lostP p = [] := by
  have le : K.length ≤ (thingsP p).length := nodup_le nd fun w m => ((h w).mp m).thing ok
  constructor
  · intro e
    cases c : lostP p with
    | nil => rfl
    | cons w r =>
      have mw : w ∈ lostP p := by rw [c]; exact List.mem_cons_self
      obtain ⟨m, nr⟩ := mem_lostP.mp mw
      have : (w :: K).length ≤ (thingsP p).length := nodup_le (List.nodup_cons.mpr ⟨fun k => nr ((h w).mp k), nd⟩) fun x mx => (List.mem_cons.mp mx).elim (fun e => e ▸ m) fun mx => ((h x).mp mx).thing ok
      rw [List.length_cons] at this
      omega
  · intro e
    have : (thingsP p).length ≤ K.length := nodup_le (things_nd ok) fun w m => by
      rw [h]
      by_cases r : Reach p w
      · exact r
      · have := mem_lostP.mpr ⟨m, r⟩
        rw [e] at this
        cases this
    omega
/-- a worth or nothing -/
instance : Dat (Option Wo) where
  At := fun H v a => match a with
    | none => v = .non
    | some w => Dat.At H v w
  enc := fun a => match a with
    | none => .none
    | some w => Dat.enc w
  dep := Dat.dep Wo
  same := fun {H H' v a} s h => match a, h with
    | none, h => h
    | some _, h => Dat.same s h
  dp := fun {K H v a} h => match a, h with
    | none, h => by
      subst h
      exact .non
    | some _, h => Dat.dp h
  lay := fun {H v a} h => match a, h with
    | none, _ => ⟨by simp [PyData.canLay0], by simp [PyData.depth]⟩
    | some _, h => Dat.lay h
  inj := fun {H H' v u a b} h h' e => match a, b, h, h', e with
    | none, none, _, _, _ => rfl
    | some _, some _, h, h', e => congrArg some (Dat.inj h h' e)
    | none, some _, _, _, e => by simp [PyData.eqv, Dat.enc] at e
    | some _, none, _, _, e => by simp [PyData.eqv, Dat.enc] at e
theorem at_none {H : Hp} : At H .non (none : Option Wo) := rfl
theorem at_some {H : Hp} {v : V} {w : Wo} (h : At H v w) : At H v (some w) := h
/-- what one was come to from -/
structure From (p : Pic) (row : List Wo) (lb : List (Wo × Option Wo)) : Prop where
  nd : row.Nodup
  keys : ∀ w, w ∈ lb.map (·.1) ↔ w ∈ row
  len : lb.length ≤ row.length
  come : ∀ w ∈ row, Reach p w
  first : ∀ w, getA lb w = some none → w ∈ rootsP p
  before : ∀ w a, getA lb w = some (some a) → ∃ (i j : Nat) (hs : List Wo), i < j ∧ row[i]? = some a ∧ row[j]? = some w ∧ getA (heldP p) a = some hs ∧ w ∈ hs
theorem From.snoc {p : Pic} {row : List Wo} {lb : List (Wo × Option Wo)} {w a : Wo} {i : Nat} {hs : List Wo} (f : From p row lb) (hw : w ∉ row) (hi : row[i]? = some a) (eh : getA (heldP p) a = some hs) (mw : w ∈ hs) : From p (row ++ [w]) (putA lb w (some a)) := by
  have il := (List.getElem?_eq_some_iff.mp hi).1
  refine ⟨?_, fun x => ?_, ?_, fun x mx => ?_, fun x e => ?_, fun x b e => ?_⟩
  · rw [List.nodup_append]
    exact ⟨f.nd, by simp, fun a ma b mb e => hw (by rw [List.mem_singleton.mp mb] at e; exact e ▸ ma)⟩
  · rw [putA_mem_keys, f.keys, List.mem_append, List.mem_singleton]
    exact or_comm
  · rw [List.length_append, List.length_singleton]
    have := f.len
    exact Nat.le_trans putA_len (by omega)
  · rcases List.mem_append.mp mx with mx | mx
    · exact f.come x mx
    · rw [List.mem_singleton.mp mx]
      exact .step (f.come a (List.mem_of_getElem? hi)) eh mw
  · rw [getA_put] at e
    split at e
    · cases e
    · exact f.first x e
  · rw [getA_put] at e
    split at e
    · rename_i ex
      cases e
      exact ⟨i, row.length, hs, il, by rw [List.getElem?_append_left il]; exact hi, by rw [ex, List.getElem?_append_right (Nat.le_refl _), Nat.sub_self]; rfl, eh, ex ▸ mw⟩
    · obtain ⟨i2, j2, hs2, h1, h2, h3, h4⟩ := f.before x b e
      exact ⟨i2, j2, hs2, h1, by rw [List.getElem?_append_left (List.getElem?_eq_some_iff.mp h2).1]; exact h2, by rw [List.getElem?_append_left (List.getElem?_eq_some_iff.mp h3).1]; exact h3, h4⟩
/-- for x in a list that may change, and is not changed in the loop -/
theorem LO {α : Type} [Dat α] {K : PySem.W.Frag} {ns : List Addr} {H : Hp} {p : Addr} {l : List α} {σ : L2.St} {g : TG} {tb : TS} {nx : L2.St → Hp → Prop} {rt : VK} (h : Own ns H p l) (Pv : Nat → L2.St → Hp → Prop) (h0 : Pv 0 σ H) (hF : ∀ i σ H', i ≤ l.length → Pv i σ H' → Fr ns H ns H' ∧ ∀ o, H p = some o → H' p = some o)
    (hs : ∀ i b x σ H', l[i]? = some b → At (del ns H') x b → Pv i σ H' → g x σ H' fun σ2 H2 => tb ⟨Pv (i + 1), rt, nx, Pv (i + 1)⟩ σ2 H2) (hd : ∀ σ H', Pv l.length σ H' → nx σ H') :
    ∃ a, V.ref p = .ref a ∧ (∃ xs, SqL K H a xs) ∧ ForL (Itl K a) g tb nx rt σ H := by
  obtain ⟨xs, e, r⟩ := h
  refine ⟨p, rfl, ⟨xs, .inl (.inl e)⟩, L_list Pv h0 (fun i σ H' hi hp => .inl (.inl ((hF i σ H' (by rw [← r.len]; exact hi) hp).2 _ e))) (fun i x σ H' hx hp => ?_) (by rw [r.len]; exact hd)⟩
  obtain ⟨b, eb, hb⟩ := r.get hx
  have hi : i < l.length := (List.getElem?_eq_some_iff.mp eb).1
  exact hs i b x σ H' eb ((hF i σ H' (Nat.le_of_lt hi) hp).1.at_ hb) hp
theorem fm_congr {α β : Type} {f g : α → Option β} : ∀ {l : List α}, (∀ a ∈ l, f a = g a) → l.filterMap f = l.filterMap g
  | [], _ => rfl
  | x :: r, h => by
    rw [List.filterMap_cons, List.filterMap_cons, h x List.mem_cons_self, fm_congr fun a m => h a (List.mem_cons_of_mem _ m)]
theorem Comes.reach {p : Pic} {t w : Wo} (c : Comes p t w) : Reach p w → Reach p t := by
  induction c with
  | refl => exact id
  | step e m _ ih => exact fun r => ih (.step r e m)
theorem behind_root {p : Pic} {t : Wo} {l : List Wo} (b : Behind p t l) {w : Wo} (r : Reach p w) : w ∈ l → ∃ x ∈ rootsP p, x ∈ l := by
  induction r with
  | root m => exact fun h => ⟨_, m, h⟩
  | step _ e m ih => exact fun h => ih (b.back _ _ e ⟨_, m, h⟩)
theorem behind_shut {p : Pic} {t : Wo} {l : List Wo} (ok : isPic p = true) (mt : t ∈ thingsP p) (b : Behind p t l) : shutB p l = true ↔ ¬ Reach p t := by
  unfold shutB
  rw [Bool.and_eq_true, Bool.and_eq_true, List.all_eq_true, List.all_eq_true, List.all_eq_true]
  constructor
  · rintro ⟨⟨_, h⟩, _⟩ r
    obtain ⟨x, mx, ml⟩ := behind_root b r b.here
    have := h x mx
    rw [decide_eq_true ml] at this
    cases this
  · intro nr
    refine ⟨⟨fun w mw => decide_eq_true ?_, fun w mw => ?_⟩, fun e me => ?_⟩
    · rcases b.th w mw with e | h
      · rw [e]
        exact mt
      · exact h
    · rw [decide_eq_false fun ml => nr ((b.comes w ml).reach (.root mw))]
      rfl
    · by_cases c : e.1 ∈ l
      · rw [decide_eq_true c, Bool.true_or]
      · have : (e.2.any fun w => decide (w ∈ l)) = false := by
          rw [List.any_eq_false]
          intro w mw ml
          exact c (b.back e.1 e.2 (heldP_at (things_nd ok) me) ⟨w, mw, of_decide_eq_true ml⟩)
        rw [this, Bool.not_false, Bool.or_true]
/-- a way to t, from its root -/
structure WayTo (p : Pic) (t : Wo) (W : List Wo) : Prop where
  last : atI W (-1) = some t
  first : ∃ c, W[0]? = some c ∧ c ∈ rootsP p
  step : ∀ (j : Nat) (a b : Wo), W[j]? = some a → W[j + 1]? = some b → ∃ hs, getA (heldP p) a = some hs ∧ b ∈ hs
  th : ∀ w ∈ W, w ∈ thingsP p
theorem way_of {p : Pic} (ok : isPic p = true) {t : Wo} {L : List Wo} (h0 : L[0]? = some t) (hc : ∃ c, L[L.length - 1]? = some c ∧ c ∈ rootsP p) (ch : ∀ (j : Nat) (a b : Wo), L[j]? = some a → L[j + 1]? = some b → ∃ hs, getA (heldP p) b = some hs ∧ a ∈ hs) : WayTo p t L.reverse := by
  have lp := (List.getElem?_eq_some_iff.mp h0).1
  have get : ∀ k, k < L.length → L.reverse[k]? = L[L.length - 1 - k]? := fun k hk => List.getElem?_reverse hk
  have st : ∀ (j : Nat) (a b : Wo), L.reverse[j]? = some a → L.reverse[j + 1]? = some b → ∃ hs, getA (heldP p) a = some hs ∧ b ∈ hs := fun j a b ha hb => by
    have hj := (List.getElem?_eq_some_iff.mp hb).1
    rw [List.length_reverse] at hj
    rw [get j (by omega)] at ha
    rw [get (j + 1) hj] at hb
    exact ch (L.length - 1 - (j + 1)) b a hb (by rw [show L.length - 1 - (j + 1) + 1 = L.length - 1 - j by omega]; exact ha)
  have hf : ∃ c, L.reverse[0]? = some c ∧ c ∈ rootsP p := by
    obtain ⟨c, e, m⟩ := hc
    exact ⟨c, by rw [get 0 lp, Nat.sub_zero]; exact e, m⟩
  refine ⟨?_, hf, st, fun w mw => ?_⟩
  · unfold atI ixN
    rw [if_neg (by decide), if_pos (by rw [List.length_reverse]; omega)]
    show L.reverse[((-1 : Int) + (L.reverse.length : Int)).toNat]? = _
    rw [show ((-1 : Int) + (L.reverse.length : Int)).toNat = L.length - 1 by rw [List.length_reverse]; omega, get _ (by omega), show L.length - 1 - (L.length - 1) = 0 by omega]
    exact h0
  · obtain ⟨j, ej⟩ := List.mem_iff_getElem?.mp mw
    cases j with
    | zero =>
      obtain ⟨c, e, m⟩ := hf
      rw [e] at ej
      cases ej
      exact roots_mem ok _ m
    | succ j =>
      have hj := (List.getElem?_eq_some_iff.mp ej).1
      obtain ⟨hs, eh, m⟩ := st j _ w (get_lt (by omega)) ej
      exact heldP_mem ok eh w m
theorem WayTo.isWay {p : Pic} {t : Wo} {W : List Wo} (h : WayTo p t W) : wayB p W = true := by
  obtain ⟨c, ec, mc⟩ := h.first
  have hW : W ≠ [] := fun e => by
    rw [e] at ec
    cases ec
  unfold wayB
  rw [decide_eq_false hW, if_neg (by decide), Bool.and_eq_true]
  refine ⟨decide_eq_true (by rw [List.getD_eq_getElem?_getD, ec]; exact mc), List.all_eq_true.mpr fun j mj => ?_⟩
  have hj := List.mem_range.mp mj
  obtain ⟨a, ea⟩ : ∃ a, W[j]? = some a := ⟨_, get_lt (by omega)⟩
  obtain ⟨b, eb⟩ : ∃ b, W[j + 1]? = some b := ⟨_, get_lt (by omega)⟩
  obtain ⟨hs, eh, m⟩ := h.step j a b ea eb
  unfold linkAt
  rw [List.getD_eq_getElem?_getD, List.getD_eq_getElem?_getD, ea, eb]
  refine decide_eq_true ?_
  show b ∈ (getA (heldP p) a).getD []
  rw [eh]
  exact m
theorem WayTo.reach {p : Pic} {t : Wo} {W : List Wo} (h : WayTo p t W) (_ : isPic p = true) : Reach p t := by
  have all : ∀ (j : Nat) (a : Wo), W[j]? = some a → Reach p a := by
    intro j
    induction j with
    | zero =>
      intro a ea
      obtain ⟨c, ec, mc⟩ := h.first
      rw [ec] at ea
      cases ea
      exact .root mc
    | succ j ih =>
      intro b eb
      obtain ⟨a, ea⟩ : ∃ a, W[j]? = some a := ⟨_, get_lt (by have := (List.getElem?_eq_some_iff.mp eb).1; omega)⟩
      obtain ⟨hs, eh, m⟩ := h.step j a b ea eb
      exact .step (ih a ea) eh m
  obtain ⟨j, ej⟩ := List.mem_iff_getElem?.mp (atI_mem' h.last)
  exact all j t ej
theorem lost_again {p : Pic} : ((thingsP p).filterMap fun w => if w ∈ lostP p then some w else none) = lostP p := by
  conv => rhs; unfold lostP
  refine fm_congr fun a ma => ?_
  by_cases c : Reach p a
  · rw [if_neg fun m => (mem_lostP.mp m).2 c, if_pos c]
  · rw [if_pos (mem_lostP.mpr ⟨ma, c⟩), if_neg c]
theorem come_again {p : Pic} : ((thingsP p).filterMap fun w => if w ∈ lostP p then none else some w) = comeP p := by
  unfold comeP
  refine fm_congr fun a ma => ?_
  by_cases c : Reach p a
  · rw [if_neg fun m => (mem_lostP.mp m).2 c, if_pos c]
  · rw [if_pos (mem_lostP.mpr ⟨ma, c⟩), if_neg c]
theorem shut_reach {p : Pic} {l : List Wo} (ok : isPic p = true) (h : shutB p l = true) {w : Wo} (m : w ∈ l) : ¬ Reach p w := by
  unfold shutB at h
  rw [Bool.and_eq_true, Bool.and_eq_true, List.all_eq_true, List.all_eq_true, List.all_eq_true] at h
  obtain ⟨⟨_, h1⟩, h2⟩ := h
  intro r
  induction r with
  | root mr =>
    have := h1 _ mr
    rw [decide_eq_true m] at this
    cases this
  | @step a0 _ _ _ e mw ih =>
    have := h2 _ (getA_mem e)
    by_cases c : a0 ∈ l
    · exact ih c
    · rw [show decide ((a0, _).1 ∈ l) = false from decide_eq_false c, Bool.false_or, Bool.not_eq_true', List.any_eq_false] at this
      exact this _ mw (decide_eq_true m)
theorem lost_shut {p : Pic} (ok : isPic p = true) : shutB p (lostP p) = true := by
  unfold shutB
  rw [Bool.and_eq_true, Bool.and_eq_true, List.all_eq_true, List.all_eq_true, List.all_eq_true]
  refine ⟨⟨fun w mw => decide_eq_true (mem_lostP.mp mw).1, fun w mw => ?_⟩, fun e me => ?_⟩
  · rw [decide_eq_false fun m => (mem_lostP.mp m).2 (.root mw)]
    rfl
  · have ge := heldP_at (things_nd ok) me
    have mt : e.1 ∈ thingsP p := by
      rw [← heldP_keys]
      exact List.mem_map_of_mem (f := Prod.fst) me
    by_cases c : e.1 ∈ lostP p
    · rw [decide_eq_true c, Bool.true_or]
    · have r : Reach p e.1 := Classical.byContradiction fun n => c (mem_lostP.mpr ⟨mt, n⟩)
      have : (e.2.any fun w => decide (w ∈ lostP p)) = false := by
        rw [List.any_eq_false]
        intro w mw ml
        exact (mem_lostP.mp (of_decide_eq_true ml)).2 (.step r ge mw)
      rw [this, Bool.not_false, Bool.or_true]
/-- there is a way of just n things to w -/
inductive Hops (p : Pic) : Nat → Wo → Prop
  | root {w : Wo} : w ∈ rootsP p → Hops p 1 w
  | step {n : Nat} {a w : Wo} {l : List Wo} : Hops p n a → getA (heldP p) a = some l → w ∈ l → Hops p (n + 1) w
theorem Hops.pos {p : Pic} {n : Nat} {w : Wo} (h : Hops p n w) : 1 ≤ n := by
  cases h with
  | root _ => exact Nat.le_refl _
  | step _ _ _ => omega
theorem Hops.one {p : Pic} {w : Wo} (h : Hops p 1 w) : w ∈ rootsP p := by
  generalize e : 1 = n at h
  cases h with
  | root m => exact m
  | step r _ _ =>
    have := r.pos
    omega
theorem Hops.succ {p : Pic} {n : Nat} {w : Wo} (h : Hops p (n + 2) w) : ∃ (a : Wo) (l : List Wo), Hops p (n + 1) a ∧ getA (heldP p) a = some l ∧ w ∈ l := by
  generalize e : n + 2 = m at h
  cases h with
  | root m => omega
  | @step k a _ l r e1 e2 =>
    obtain rfl : k = n + 1 := by omega
    exact ⟨a, l, r, e1, e2⟩
theorem Hops.reach {p : Pic} {n : Nat} {w : Wo} (h : Hops p n w) : Reach p w := by
  induction h with
  | root m => exact .root m
  | step _ e m ih => exact .step ih e m
/-- w is come to by n things, and not by fewer -/
def Far (p : Pic) (w : Wo) (n : Nat) : Prop := Hops p n w ∧ ∀ j, Hops p j w → n ≤ j
/-- how far: by the number of things -/
structure Lev (p : Pic) (row : List Wo) (lb : List (Wo × Option Wo)) (lw : Wo → Nat) (k : Nat) : Prop where
  first : ∀ w, getA lb w = some none → lw w = 1
  step : ∀ w a, getA lb w = some (some a) → lw w = lw a + 1
  mono : ∀ (i j : Nat) (x y : Wo), row[i]? = some x → row[j]? = some y → i ≤ j → lw x ≤ lw y
  near : ∀ a, row[k]? = some a → ∀ w ∈ row, lw w ≤ lw a + 1
  shut : ∀ (i : Nat) (a w : Wo) (hs : List Wo), i < k → row[i]? = some a → getA (heldP p) a = some hs → w ∈ hs → w ∈ row ∧ lw w ≤ lw a + 1
  root : ∀ w ∈ rootsP p, lw w ≤ 1
theorem Lev.snoc {p : Pic} {row : List Wo} {lb : List (Wo × Option Wo)} {lw : Wo → Nat} {k : Nat} {a b : Wo} (h : Lev p row lb lw k) (f : From p row lb) (nb : b ∉ row) (ea : row[k]? = some a) (rb : ∀ w ∈ rootsP p, w ∈ row := by assumption) :
    Lev p (row ++ [b]) (putA lb b (some a)) (fun w => if w = b then lw a + 1 else lw w) k := by
  have ma := List.mem_of_getElem? ea
  have nab : a ≠ b := fun e => nb (by rw [← e]; exact ma)
  have old : ∀ w ∈ row, (if w = b then lw a + 1 else lw w) = lw w := fun w m => if_neg fun (e : w = b) => nb (by rw [← e]; exact m)
  have new : (if b = b then lw a + 1 else lw b) = lw a + 1 := if_pos rfl
  have kl := (List.getElem?_eq_some_iff.mp ea).1
  have near := h.near a ea
  have get : ∀ (j : Nat) (y : Wo), (row ++ [b])[j]? = some y → (row[j]? = some y) ∨ (y = b ∧ j = row.length) := fun j y e => by
    rcases Nat.lt_or_ge j row.length with c | c
    · rw [List.getElem?_append_left c] at e
      exact .inl e
    · have := (List.getElem?_eq_some_iff.mp e).1
      rw [List.length_append, List.length_singleton] at this
      obtain rfl : j = row.length := by omega
      rw [List.getElem?_append_right (Nat.le_refl _), Nat.sub_self] at e
      cases e
      exact .inr ⟨rfl, rfl⟩
  refine ⟨fun w e => ?_, fun w x e => ?_, fun i j x y ex ey hij => ?_, fun c ec w mw => ?_, fun i c w hs hi ec eh mw => ?_, fun w m => ?_⟩
  · rw [getA_put] at e
    split at e
    · cases e
    · rename_i n
      show (if w = b then lw a + 1 else lw w) = 1
      rw [if_neg n]
      exact h.first w e
  · rw [getA_put] at e
    split at e
    · rename_i n
      cases e
      show (if w = b then lw a + 1 else lw w) = (if a = b then lw a + 1 else lw a) + 1
      rw [if_pos n, if_neg nab]
    · rename_i n
      obtain ⟨i, j, hs, _, h2, _⟩ := f.before w x e
      show (if w = b then lw a + 1 else lw w) = (if x = b then lw a + 1 else lw x) + 1
      rw [if_neg n, old x (List.mem_of_getElem? h2)]
      exact h.step w x e
  · show (if x = b then lw a + 1 else lw x) ≤ (if y = b then lw a + 1 else lw y)
    rcases get i x ex with ex | ⟨e1, ei⟩
    · rw [old x (List.mem_of_getElem? ex)]
      rcases get j y ey with ey | ⟨e2, ej⟩
      · rw [old y (List.mem_of_getElem? ey)]
        exact h.mono i j x y ex ey hij
      · rw [e2, new]
        exact near x (List.mem_of_getElem? ex)
    · rcases get j y ey with ey | ⟨e2, ej⟩
      · have := (List.getElem?_eq_some_iff.mp ey).1
        omega
      · rw [e1, e2]
        exact Nat.le_refl _
  · rcases get k c ec with ec | ⟨_, e⟩
    · rw [ea] at ec
      cases ec
      show (if w = b then lw a + 1 else lw w) ≤ (if a = b then lw a + 1 else lw a) + 1
      rw [if_neg nab]
      split
      · exact Nat.le_refl _
      · rename_i n
        rcases List.mem_append.mp mw with mw | mw
        · exact near w mw
        · exact absurd (List.mem_singleton.mp mw) n
    · omega
  · rcases get i c ec with ec | ⟨_, e⟩
    · obtain ⟨m1, m2⟩ := h.shut i c w hs hi ec eh mw
      refine ⟨List.mem_append_left _ m1, ?_⟩
      show (if w = b then lw a + 1 else lw w) ≤ (if c = b then lw a + 1 else lw c) + 1
      rw [old w m1, old c (List.mem_of_getElem? ec)]
      exact m2
    · omega
  · show (if w = b then lw a + 1 else lw w) ≤ 1
    rw [old w (rb w m)]
    exact h.root w m
theorem Lev.next {p : Pic} {row : List Wo} {lb : List (Wo × Option Wo)} {lw : Wo → Nat} {k : Nat} {a : Wo} {hs : List Wo} (h : Lev p row lb lw k) (_ : From p row lb) (ea : row[k]? = some a) (eh : getA (heldP p) a = some hs) (al : ∀ w ∈ hs, w ∈ row ∧ lw w ≤ lw a + 1) : Lev p row lb lw (k + 1) := by
  refine ⟨h.first, h.step, h.mono, fun c ec w mw => ?_, fun i c w hs2 hi ec eh2 mw => ?_, h.root⟩
  · have := h.near a ea w mw
    have := h.mono k (k + 1) a c ea ec (Nat.le_succ _)
    omega
  · rcases Nat.lt_or_ge i k with c1 | c1
    · exact h.shut i c w hs2 c1 ec eh2 mw
    · obtain rfl : i = k := by omega
      rw [ea] at ec
      cases ec
      rw [eh] at eh2
      cases eh2
      exact al w mw
theorem Lev.far {p : Pic} {row : List Wo} {lb : List (Wo × Option Wo)} {lw : Wo → Nat} {k : Nat} (h : Lev p row lb lw k) (f : From p row lb) (ro : ∀ w ∈ rootsP p, w ∈ row) (sh : ∀ (i : Nat) (a w : Wo) (hs : List Wo), i < row.length → row[i]? = some a → getA (heldP p) a = some hs → w ∈ hs → w ∈ row ∧ lw w ≤ lw a + 1) (t : Wo) (mt : t ∈ row) : Far p t (lw t) := by
  constructor
  · have all : ∀ (n j : Nat) (w : Wo), j < n → row[j]? = some w → Hops p (lw w) w := by
      intro n
      induction n with
      | zero => intro j w hj; omega
      | succ n ih =>
        intro j w hj ej
        have mw := (f.keys w).mpr (List.mem_of_getElem? ej)
        cases e : getA lb w with
        | none => exact absurd mw (getA_none.mp e)
        | some o =>
          cases o with
          | none =>
            rw [h.first w e]
            exact .root (f.first w e)
          | some a =>
            obtain ⟨i, j2, hs, hij, ei, ej2, eh, mh⟩ := f.before w a e
            have : j2 = j := (List.getElem?_inj (List.getElem?_eq_some_iff.mp ej2).1 f.nd).mp (ej2.trans ej.symm)
            rw [h.step w a e]
            exact .step (ih i a (by omega) ei) eh mh
    obtain ⟨j, ej⟩ := List.mem_iff_getElem?.mp mt
    exact all (j + 1) j t (Nat.lt_succ_self _) ej
  · have : ∀ (j : Nat) (w : Wo), Hops p j w → w ∈ row ∧ lw w ≤ j := by
      intro j w l
      induction l with
      | root m => exact ⟨ro _ m, h.root _ m⟩
      | step _ e m ih =>
        obtain ⟨i, ei⟩ := List.mem_iff_getElem?.mp ih.1
        have := sh i _ _ _ (List.getElem?_eq_some_iff.mp ei).1 ei e m
        exact ⟨this.1, by omega⟩
    exact fun j hj => (this j t hj).2
theorem atI_end {α : Type} {xs : List α} (h : 0 < xs.length) : ∃ c, atI xs (-1) = some c := by
  refine ⟨xs[xs.length - 1]'(by omega), ?_⟩
  unfold atI ixN
  rw [if_neg (by decide), if_pos (by omega)]
  show xs[((-1 : Int) + (xs.length : Int)).toNat]? = _
  rw [show ((-1 : Int) + (xs.length : Int)).toNat = xs.length - 1 by omega]
  exact get_lt _
theorem Far.uniq {p : Pic} {w : Wo} {n m : Nat} (a : Far p w n) (b : Far p w m) : n = m := Nat.le_antisymm (a.2 m b.1) (b.2 n a.1)
/-- data that stands at an address that B did not have -/
structure Fresh (B : Hp) (α : Type) where
  val : α
instance {B : Hp} {α : Type} [Dat α] : Dat (Fresh B α) where
  At := fun H v a => At H v a.val ∧ ∃ r, v = .ref r ∧ B r = none
  enc := fun a => Dat.enc a.val
  dep := Dat.dep α
  same := fun s h => ⟨Dat.same s h.1, h.2⟩
  dp := fun h => Dat.dp h.1
  lay := fun h => Dat.lay h.1
  inj := fun {_ _ _ _ a b} h h' e => by
    have := Dat.inj h.1 h'.1 e
    cases a
    cases b
    cases this
    rfl
/-- what is held, in new lists -/
def heldF (B : Hp) (p : Pic) : List (Wo × Fresh B (List Wo)) := (heldP p).map fun e => (e.1, ⟨e.2⟩)
theorem heldF_get {B : Hp} {p : Pic} {k : Wo} {hs : List Wo} (h : getA (heldP p) k = some hs) : getA (heldF B p) k = some ⟨hs⟩ := by
  unfold heldF
  generalize heldP p = l at h
  induction l with
  | nil => simp [getA] at h
  | cons e r ih =>
    rw [List.map_cons]
    by_cases c : e.1 = k
    · rw [getA_pos c] at h
      cases h
      exact getA_pos (p := (e.1, (⟨e.2⟩ : Fresh B (List Wo)))) c
    · rw [getA_neg c] at h
      rw [getA_neg (p := (e.1, (⟨e.2⟩ : Fresh B (List Wo)))) c]
      exact ih h
theorem heldF_keys {B : Hp} {p : Pic} : (heldF B p).map (·.1) = thingsP p := by
  unfold heldF
  rw [List.map_map, ← heldP_keys]
  rfl
end G

namespace G
open PySem L2 TL
open Dat (At)
/-! ### pictures whose lists are known by their addresses -/
/-- a list of what never changes, at a -/
def Ls {α : Type} [Dat α] (H : Hp) (a : Addr) (l : List α) : Prop := ∃ xs, H a = some (.lst xs) ∧ Ats H xs l
section
variable {α : Type} [Dat α] {H H' : Hp} {a b : Addr} {l : List α} {ns W : List Addr} {v : V}
theorem Ls.same (h : Ls H a l) (s : Same H H') : Ls H' a l := by
  obtain ⟨xs, e, r⟩ := h
  exact ⟨xs, s _ _ e, r.same s⟩
theorem Ls.lv (h : Ls H a l) : Lv H a := by
  obtain ⟨xs, e, r⟩ := h
  exact .lst e
theorem Ls.at_ [Imm α] (h : Ls H a l) (lv : Live ns H) (n : a ∉ ns) : At (del ns H) (.ref a) l := by
  obtain ⟨xs, e, r⟩ := h
  exact ⟨a, xs, rfl, del_at e n, r.out lv⟩
theorem Ls.of (h : At (del ns H) (.ref a) l) : Ls H a l := by
  obtain ⟨t, xs, e, h, r⟩ := h
  cases e
  exact ⟨xs, (of_del h).1, r.same del_sub⟩
theorem Ls.ne [Imm α] (h : Ls H a l) (e : H b = none) : a ≠ b := by
  obtain ⟨xs, e1, _⟩ := h
  intro z
  rw [z, e] at e1
  cases e1
/-- what stood outside of W stands -/
theorem Buts.same (b : Buts W H H') : Same (del W H) H' := fun c o e => b c o (of_del e).1 (of_del e).2
theorem Ls.buts [Imm α] (h : Ls H a l) (lv : Live W H) (n : a ∉ W) (b : Buts W H H') : Ls H' a l := by
  obtain ⟨xs, e, r⟩ := h
  exact ⟨xs, b _ _ e n, (r.out lv).same b.same⟩
theorem ats_buts [Imm α] {xs : List V} (r : Ats H xs l) (lv : Live W H) (b : Buts W H H') : Ats H' xs l := (r.out lv).same b.same
theorem at_buts [Imm α] {x : V} {c : α} (r : At H x c) (lv : Live W H) (b : Buts W H H') : At H' x c := Dat.same b.same (Imm.out lv r)
end
/-- a going's row -/
structure GoR (H : Hp) (t r : Addr) (g : Going) : Prop where
  tup : H t = some (.tup [.int g.a, .int g.b, .ref r])
  row : Ls H r g.c
inductive GoRs (H : Hp) : List Addr → List Addr → List Going → Prop
  | nil : GoRs H [] [] []
  | cons {t r : Addr} {g : Going} {ts rs : List Addr} {gs : List Going} : GoR H t r g → GoRs H ts rs gs → GoRs H (t :: ts) (r :: rs) (g :: gs)
section
variable {H H' : Hp} {t r : Addr} {g : Going} {ts rs ts' rs' : List Addr} {gs gs' : List Going} {ns W : List Addr}
theorem GoR.same (h : GoR H t r g) (s : Same H H') : GoR H' t r g := ⟨s _ _ h.tup, h.row.same s⟩
theorem GoRs.same (s : Same H H') : ∀ {ts rs gs}, GoRs H ts rs gs → GoRs H' ts rs gs
  | _, _, _, .nil => .nil
  | _, _, _, .cons h k => .cons (h.same s) (GoRs.same s k)
theorem GoRs.app : ∀ {ts rs gs}, GoRs H ts rs gs → GoRs H ts' rs' gs' → GoRs H (ts ++ ts') (rs ++ rs') (gs ++ gs')
  | _, _, _, .nil, k => k
  | _, _, _, .cons h k', k => .cons h (GoRs.app k' k)
theorem GoRs.one (h : GoR H t r g) : GoRs H [t] [r] [g] := .cons h .nil
theorem GoRs.len : ∀ {ts rs gs}, GoRs H ts rs gs → ts.length = gs.length ∧ rs.length = gs.length
  | _, _, _, .nil => ⟨rfl, rfl⟩
  | _, _, _, .cons _ k => by
    have := k.len
    exact ⟨by rw [List.length_cons, List.length_cons, this.1], by rw [List.length_cons, List.length_cons, this.2]⟩
theorem GoRs.lv : ∀ {ts rs gs}, GoRs H ts rs gs → ∀ a ∈ rs, Lv H a
  | _, _, _, .nil, _, m => by cases m
  | _, _, _, .cons h k, a, m => (List.mem_cons.mp m).elim (fun e => e ▸ h.row.lv) (k.lv a)
theorem GoR.at_ (h : GoR H t r g) (lv : Live ns H) (n : r ∉ ns) : At (del ns H) (.ref t) g :=
  ⟨t, _, _, _, rfl, del_at h.tup (lv.tup h.tup), rfl, rfl, h.row.at_ lv n⟩
theorem GoRs.ats (lv : Live ns H) : ∀ {ts rs gs}, GoRs H ts rs gs → (∀ a ∈ rs, a ∉ ns) → Ats (del ns H) (ts.map V.ref) gs
  | _, _, _, .nil, _ => .nil
  | _, _, _, .cons h k, n => .cons (h.at_ lv (n _ List.mem_cons_self)) (GoRs.ats lv k fun a m => n a (List.mem_cons_of_mem _ m))
theorem GoR.buts (h : GoR H t r g) (lv : Live W H) (n : r ∉ W) (b : Buts W H H') : GoR H' t r g := ⟨b _ _ h.tup (lv.tup h.tup), h.row.buts lv n b⟩
theorem GoRs.buts (lv : Live W H) (b : Buts W H H') : ∀ {ts rs gs}, GoRs H ts rs gs → (∀ a ∈ rs, a ∉ W) → GoRs H' ts rs gs
  | _, _, _, .nil, _ => .nil
  | _, _, _, .cons h k, n => .cons (h.buts lv (n _ List.mem_cons_self) b) (GoRs.buts lv b k fun a m => n a (List.mem_cons_of_mem _ m))
theorem GoRs.get : ∀ {ts rs gs} {i : Nat} {t : Addr}, GoRs H ts rs gs → ts[i]? = some t → ∃ r g, rs[i]? = some r ∧ gs[i]? = some g ∧ GoR H t r g
  | _, _, _, _, _, .nil, e => by cases e
  | _, _, _, 0, _, .cons h _, e => by
    cases e
    exact ⟨_, _, rfl, rfl, h⟩
  | _, _, _, i + 1, _, .cons _ k, e => k.get (i := i) (by simpa using e)
theorem GoRs.getR : ∀ {ts rs gs} {i : Nat} {r : Addr}, GoRs H ts rs gs → rs[i]? = some r → ∃ t g, ts[i]? = some t ∧ gs[i]? = some g ∧ GoR H t r g
  | _, _, _, _, _, .nil, e => by cases e
  | _, _, _, 0, _, .cons h _, e => by
    cases e
    exact ⟨_, _, rfl, rfl, h⟩
  | _, _, _, i + 1, _, .cons _ k, e => k.getR (i := i) (by simpa using e)
/-- one row changed -/
theorem GoRs.set (nd : ∀ {rs : List Addr}, rs.Nodup → True) : ∀ {ts rs gs} {i : Nat} {r : Addr} {g : Going} {l : List Wo}, GoRs H ts rs gs → rs.Nodup → rs[i]? = some r → gs[i]? = some g → Live [r] H → Buts [r] H H' → Ls H' r l → GoRs H' ts rs (gs.set i ⟨g.a, g.b, l⟩)
  | _, _, _, _, _, _, _, .nil, _, e, _, _, _, _ => by cases e
  | _, _, _, 0, _, _, _, .cons h k, nd, e, e2, lv, b, ll => by
    cases e
    cases e2
    rw [List.nodup_cons] at nd
    exact .cons ⟨b _ _ h.tup (lv.tup h.tup), ll⟩ (GoRs.buts lv b k fun a m e => nd.1 (by rw [List.mem_singleton] at e; exact e ▸ m))
  | _, _, _, i + 1, _, _, _, .cons h k, nd', e, e2, lv, b, ll => by
    rw [List.nodup_cons] at nd'
    have e' := List.getElem?_cons_succ ▸ e
    refine .cons (h.buts lv (fun m => ?_) b) (GoRs.set nd (i := i) k nd'.2 e' (by simpa using e2) lv b ll)
    rw [List.mem_singleton] at m
    exact nd'.1 (m ▸ List.mem_of_getElem? e')
end
/-- the picture at v; L: its lists, all unlike: the pile's, the pegs', the goings', the boxes', the rows' -/
structure PicL (H : Hp) (T A B G X : Addr) (ts rs : List Addr) (p : Pic) : Prop where
  top : H T = some (.tup [.ref A, .ref B, .ref G, .ref X])
  nd : (A :: B :: G :: X :: rs).Nodup
  pile : Ls H A p.a
  pegs : Ls H B p.b
  goings : H G = some (.lst (ts.map V.ref))
  rows : GoRs H ts rs p.c
  boxes : Ls H X p.d
def PicN (H : Hp) (v : V) (p : Pic) (L : List Addr) : Prop := ∃ (T A B G X : Addr) (ts rs : List Addr), v = .ref T ∧ L = A :: B :: G :: X :: rs ∧ PicL H T A B G X ts rs p
section
variable {H H' : Hp} {v : V} {p : Pic} {L ns W : List Addr}
theorem PicL.same {T A B G X : Addr} {ts rs : List Addr} (h : PicL H T A B G X ts rs p) (s : Same H H') : PicL H' T A B G X ts rs p := ⟨s _ _ h.top, h.nd, h.pile.same s, h.pegs.same s, s _ _ h.goings, h.rows.same s, h.boxes.same s⟩
theorem PicN.same (h : PicN H v p L) (s : Same H H') : PicN H' v p L := by
  obtain ⟨T, A, B, G, X, ts, rs, e1, e2, k⟩ := h
  exact ⟨T, A, B, G, X, ts, rs, e1, e2, k.same s⟩
theorem PicL.at_ {T A B G X : Addr} {ts rs : List Addr} (h : PicL H T A B G X ts rs p) (lv : Live ns H) (n : ∀ a ∈ A :: B :: G :: X :: rs, a ∉ ns) : At (del ns H) (.ref T) p :=
  ⟨T, _, _, _, _, rfl, del_at h.top (lv.tup h.top), h.pile.at_ lv (n A (by simp)), h.pegs.at_ lv (n B (by simp)), ⟨G, _, rfl, del_at h.goings (n G (by simp)), h.rows.ats lv fun a m => n a (by simp [m])⟩, h.boxes.at_ lv (n X (by simp))⟩
theorem PicN.at_ (h : PicN H v p L) (lv : Live ns H) (n : ∀ a ∈ L, a ∉ ns) : At (del ns H) v p := by
  obtain ⟨T, A, B, G, X, ts, rs, rfl, rfl, k⟩ := h
  exact k.at_ lv n
theorem PicN.lv (h : PicN H v p L) : Live L H := by
  obtain ⟨T, A, B, G, X, ts, rs, rfl, rfl, k⟩ := h
  exact .cons k.pile.lv (.cons k.pegs.lv (.cons (.lst k.goings) (.cons k.boxes.lv fun a m => k.rows.lv a m)))
theorem PicN.buts (h : PicN H v p L) (lv : Live W H) (n : ∀ a ∈ L, a ∉ W) (b : Buts W H H') : PicN H' v p L := by
  obtain ⟨T, A, B, G, X, ts, rs, rfl, rfl, k⟩ := h
  exact ⟨T, A, B, G, X, ts, rs, rfl, rfl, b _ _ k.top (lv.tup k.top), k.nd, k.pile.buts lv (n A (by simp)) b, k.pegs.buts lv (n B (by simp)) b, b _ _ k.goings (n G (by simp)), k.rows.buts lv b fun a m => n a (by simp [m]), k.boxes.buts lv (n X (by simp)) b⟩
end
section
variable {α : Type} [Dat α] {H H' H1 H2 : Hp} {a b w0 : Addr} {l l' : List α} {ns W : List Addr} {v : V}
theorem Ls.own [Imm α] (h : Ls H a l) (lv : Live ns H) : Own ns H a l := by
  obtain ⟨xs, e, r⟩ := h
  exact ⟨xs, e, r.out lv⟩
theorem Own.ls (h : Own ns H a l) : Ls H a l := by
  obtain ⟨xs, e, r⟩ := h
  exact ⟨xs, e, r.same del_sub⟩
theorem But.b1 (b : But a H H') : Buts [a] H H' := fun c o e n => b c o e fun z => n (List.mem_singleton.mpr z)
theorem But.via (b : But w0 H H1) (n : H a = none) (c : But a H1 H2) : But w0 H H2 := fun x o e k => c x o (b x o e k) fun z => by rw [z, n] at e; cases e
end
/-- the lists of a picture, without its tuple -/
structure PicB (H : Hp) (A B G X : Addr) (ts rs : List Addr) (p : Pic) : Prop where
  nd : (A :: B :: G :: X :: rs).Nodup
  pile : Ls H A p.a
  pegs : Ls H B p.b
  goings : H G = some (.lst (ts.map V.ref))
  rows : GoRs H ts rs p.c
  boxes : Ls H X p.d
section
variable {H H' : Hp} {A B G X T : Addr} {ts rs W ns : List Addr} {p : Pic}
theorem PicL.body (h : PicL H T A B G X ts rs p) : PicB H A B G X ts rs p := ⟨h.nd, h.pile, h.pegs, h.goings, h.rows, h.boxes⟩
theorem PicB.same (h : PicB H A B G X ts rs p) (s : Same H H') : PicB H' A B G X ts rs p := ⟨h.nd, h.pile.same s, h.pegs.same s, s _ _ h.goings, h.rows.same s, h.boxes.same s⟩
theorem PicB.buts (h : PicB H A B G X ts rs p) (lv : Live W H) (n : ∀ a ∈ A :: B :: G :: X :: rs, a ∉ W) (b : Buts W H H') : PicB H' A B G X ts rs p :=
  ⟨h.nd, h.pile.buts lv (n A (by simp)) b, h.pegs.buts lv (n B (by simp)) b, b _ _ h.goings (n G (by simp)), h.rows.buts lv b fun a m => n a (by simp [m]), h.boxes.buts lv (n X (by simp)) b⟩
theorem PicB.at_ (h : PicB H A B G X ts rs p) (lv : Live ns H) (n : ∀ a ∈ A :: B :: G :: X :: rs, a ∉ ns) (e : H T = some (.tup [.ref A, .ref B, .ref G, .ref X])) : At (del ns H) (.ref T) p :=
  PicL.at_ ⟨e, h.nd, h.pile, h.pegs, h.goings, h.rows, h.boxes⟩ lv n
theorem PicB.lv (h : PicB H A B G X ts rs p) : Live (A :: B :: G :: X :: rs) H := .cons h.pile.lv (.cons h.pegs.lv (.cons (.lst h.goings) (.cons h.boxes.lv fun a m => h.rows.lv a m)))
/-- the boxes' list changed -/
theorem PicB.setX (h : PicB H A B G X ts rs p) {d : List (Int × Wo)} (b : But X H H') (x : Ls H' X d) : PicB H' A B G X ts rs ⟨p.a, p.b, p.c, d⟩ := by
  have lv : Live [X] H := .one h.boxes.lv
  have nd := h.nd
  simp only [List.nodup_cons, List.mem_cons, not_or] at nd
  obtain ⟨⟨n1, n2, n3, n4⟩, ⟨n5, n6, n7⟩, ⟨n8, n9⟩, n10, _⟩ := nd
  have one : ∀ {a : Addr}, a ≠ X → a ∉ [X] := fun n m => n (List.mem_singleton.mp m)
  exact ⟨h.nd, h.pile.buts lv (one n3) b.b1, h.pegs.buts lv (one n6) b.b1, b _ _ h.goings n8, h.rows.buts lv b.b1 fun a m => one fun e => n10 (e ▸ m), x⟩
/-- the pile changed -/
theorem PicB.setA (h : PicB H A B G X ts rs p) {l : List Wo} (b : But A H H') (x : Ls H' A l) : PicB H' A B G X ts rs ⟨l, p.b, p.c, p.d⟩ := by
  have lv : Live [A] H := .one h.pile.lv
  have nd := h.nd
  simp only [List.nodup_cons, List.mem_cons, not_or] at nd
  obtain ⟨⟨n1, n2, n3, n4⟩, _⟩ := nd
  have one : ∀ {a : Addr}, A ≠ a → a ∉ [A] := fun n m => n (List.mem_singleton.mp m).symm
  exact ⟨h.nd, x, h.pegs.buts lv (one n1) b.b1, b _ _ h.goings (Ne.symm n2), h.rows.buts lv b.b1 fun a m => one fun e => n4 (e ▸ m), h.boxes.buts lv (one n3) b.b1⟩
/-- a row changed -/
theorem PicB.setR (h : PicB H A B G X ts rs p) {l : List Wo} {i : Nat} {r : Addr} {g : Going} (er : rs[i]? = some r) (eg : p.c[i]? = some g) (b : But r H H') (x : Ls H' r l) : PicB H' A B G X ts rs ⟨p.a, p.b, p.c.set i ⟨g.a, g.b, l⟩, p.d⟩ := by
  have mr := List.mem_of_getElem? er
  have lv : Live [r] H := .one (h.rows.lv r mr)
  have nd := h.nd
  simp only [List.nodup_cons, List.mem_cons, not_or] at nd
  obtain ⟨⟨n1, n2, n3, n4⟩, ⟨n5, n6, n7⟩, ⟨n8, n9⟩, n10, n11⟩ := nd
  have one : ∀ {a : Addr}, a ∉ rs → a ∉ [r] := fun n m => n ((List.mem_singleton.mp m) ▸ mr)
  exact ⟨h.nd, h.pile.buts lv (one n4) b.b1, h.pegs.buts lv (one n7) b.b1, b _ _ h.goings fun e => n9 (e ▸ mr), h.rows.set (fun _ => trivial) n11 er eg lv b.b1 x, h.boxes.buts lv (one n10) b.b1⟩
/-- a going more -/
theorem PicB.addG (h : PicB H A B G X ts rs p) {t r : Addr} {g : Going} (k : GoR H t r g) (nr : r ∉ A :: B :: G :: X :: rs) (b : But G H H') (x : H' G = some (.lst (ts.map V.ref ++ [V.ref t]))) : PicB H' A B G X (ts ++ [t]) (rs ++ [r]) ⟨p.a, p.b, p.c ++ [g], p.d⟩ := by
  have lv : Live [G] H := .one (.lst h.goings)
  have nd := h.nd
  simp only [List.nodup_cons, List.mem_cons, not_or] at nd nr
  obtain ⟨⟨n1, n2, n3, n4⟩, ⟨n5, n6, n7⟩, ⟨n8, n9⟩, n10, n11⟩ := nd
  obtain ⟨r1, r2, r3, r4, r5⟩ := nr
  have one : ∀ {a : Addr}, a ≠ G → a ∉ [G] := fun n m => n (List.mem_singleton.mp m)
  refine ⟨?_, h.pile.buts lv (one n2) b.b1, h.pegs.buts lv (one n5) b.b1, by rw [x, List.map_append]; rfl, (h.rows.buts lv b.b1 fun a m => one fun e => n9 (e ▸ m)).app (.one (k.buts lv (one r3) b.b1)), h.boxes.buts lv (one (Ne.symm n8)) b.b1⟩
  simp only [List.nodup_cons, List.mem_cons, List.mem_append, List.mem_singleton, List.nodup_append, not_or]
  exact ⟨⟨n1, n2, n3, n4, Ne.symm r1, by simp⟩, ⟨n5, n6, n7, Ne.symm r2, by simp⟩, ⟨n8, n9, Ne.symm r3, by simp⟩, ⟨n10, Ne.symm r4, by simp⟩, n11, by simp, fun a ma c mc e => by
    rcases mc with mc | mc
    · exact r5 (mc ▸ e ▸ ma)
    · cases mc⟩
/-- another list of pegs -/
theorem PicB.newB (h : PicB H A B G X ts rs p) {B2 : Addr} {l : List (Str × Wo)} (n : B2 ∉ A :: B :: G :: X :: rs) (x : Ls H B2 l) : PicB H A B2 G X ts rs ⟨p.a, l, p.c, p.d⟩ := by
  have nd := h.nd
  simp only [List.nodup_cons, List.mem_cons, not_or] at nd n
  obtain ⟨⟨n1, n2, n3, n4⟩, ⟨n5, n6, n7⟩, ⟨n8, n9⟩, n10, n11⟩ := nd
  obtain ⟨r1, r2, r3, r4, r5⟩ := n
  refine ⟨?_, h.pile, x, h.goings, h.rows, h.boxes⟩
  simp only [List.nodup_cons, List.mem_cons, not_or]
  exact ⟨⟨Ne.symm r1, n2, n3, n4⟩, ⟨r3, r4, r5⟩, ⟨n8, n9⟩, n10, n11⟩
end
/-- what goes on while a picture's own lists are changed: w0 the well, H the heap at first -/
structure Stt (w0 : Addr) (H Hk : Hp) (n : Nat) (A B G X : Addr) (ts rs : List Addr) (p : Pic) : Prop where
  b : But w0 H Hk
  W : WellAt Hk w0 n
  k : PicB Hk A B G X ts rs p
  nw : ∀ a ∈ A :: B :: G :: X :: rs, H a = none ∧ a ≠ w0
section
variable {w0 : Addr} {H H1 H2 : Hp} {n m : Nat} {A B G X : Addr} {ts rs ns : List Addr} {p : Pic}
theorem Stt.same (S : Stt w0 H H1 n A B G X ts rs p) (s : Same H1 H2) : Stt w0 H H2 n A B G X ts rs p := ⟨S.b.trans (.of s), S.W.same s, S.k.same s, S.nw⟩
theorem Stt.draw (S : Stt w0 H H1 n A B G X ts rs p) (c : But w0 H1 H2) (W : WellAt H2 w0 m) : Stt w0 H H2 m A B G X ts rs p :=
  ⟨S.b.trans c, W, S.k.buts (.one S.W.lv) (fun a ma e => (S.nw a ma).2 (List.mem_singleton.mp e)) c.b1, S.nw⟩
theorem Stt.fr (S : Stt w0 H H1 n A B G X ts rs p) (lv : Live ns H) (m : w0 ∈ ns) : Fr ns H ns H1 := S.b.fr lv m S.W.lv
theorem Stt.out (S : Stt w0 H H1 n A B G X ts rs p) (lv : Live ns H) : ∀ a ∈ A :: B :: G :: X :: rs, a ∉ ns := fun a m => lv.not (S.nw a m).1
theorem well_via {a : Addr} (W : WellAt H1 w0 n) (b : But a H1 H2) (ne : a ≠ w0) : WellAt H2 w0 n := by
  obtain ⟨x, y, z, e, r⟩ := W
  exact ⟨x, y, z, b _ _ e (Ne.symm ne), r⟩
end
theorem inV_str {z : Str} : ∀ {l : List Str} [dc : Decidable (z ∈ l)], inV (.str z) (l.map V.str) = decide (z ∈ l)
  | [], _ => by simp [inV]
  | y :: r, dc => by
    have ih := inV_str (z := z) (l := r)
    rw [List.map_cons]
    unfold inV at ih ⊢
    rw [List.any_cons, ih, Bool.eq_iff_iff]
    simp only [Bool.or_eq_true, decide_eq_true_eq, List.mem_cons]
    refine ⟨fun h => h.elim (fun e => .inl ?_) .inr, fun h => h.elim (fun e => .inl ?_) .inr⟩
    · first
        | exact (by simpa [eqV] using e)
        | exact (by simpa [eqV] using e : y = z).symm
    · subst e
      simp [eqV]
theorem flat_str : ∀ {l : List Str}, (l.map V.str).all flatV = true
  | [] => rfl
  | _ :: r => by rw [List.map_cons, List.all_cons, flat_str (l := r)]; rfl
theorem r_ninS {K : PySem.W.Frag} {H : Hp} {Q : VK} {ns : List Addr} {v : V} {z : Str} {l : List Str} (h : At (del ns H) v l) (q : Q (.bl (!decide (z ∈ l))) H) : rIn K true (.str z) v H Q := by
  obtain ⟨p, xs, rfl, ep, rx⟩ := h
  have e := ats_str rx
  subst e
  exact ⟨p, _, rfl, .inl (.inl (.inl (of_del ep).1)), rfl, flat_str, by rw [inV_str]; exact q⟩
theorem r_inS {K : PySem.W.Frag} {H : Hp} {Q : VK} {ns : List Addr} {v : V} {z : Str} {l : List Str} (h : At (del ns H) v l) (q : Q (.bl (decide (z ∈ l))) H) : rIn K false (.str z) v H Q := by
  obtain ⟨p, xs, rfl, ep, rx⟩ := h
  have e := ats_str rx
  subst e
  exact ⟨p, _, rfl, .inl (.inl (.inl (of_del ep).1)), rfl, flat_str, by rw [inV_str]; exact q⟩
/-- lists by their lengths -/
def LenL (H : Hp) : List Addr → List Nat → Prop := Paired fun a n => ∃ xs, H a = some (.lst xs) ∧ xs.length = n
theorem LenL.get {H : Hp} : ∀ {L : List Addr} {ls : List Nat} {i : Nat} {a : Addr}, LenL H L ls → L[i]? = some a → ∃ n xs, ls[i]? = some n ∧ H a = some (.lst xs) ∧ xs.length = n
  | _, _, _, _, .nil, e => by cases e
  | _, _, 0, _, .cons ⟨xs, h1, h2⟩ _, e => by
    cases e
    exact ⟨_, xs, rfl, h1, h2⟩
  | _, _, i + 1, _, .cons _ k, e => LenL.get (i := i) k (by simpa using e)
theorem LenL.of {H : Hp} : ∀ {L : List Addr} {ls : List Nat}, L.length = ls.length → (∀ (i : Nat) (a : Addr) (n : Nat), L[i]? = some a → ls[i]? = some n → ∃ xs, H a = some (.lst xs) ∧ xs.length = n) → LenL H L ls
  | [], [], _, _ => .nil
  | [], _ :: _, e, _ => by simp at e
  | _ :: _, [], e, _ => by simp at e
  | _ :: L, _ :: ls, e, h => .cons (h 0 _ _ rfl rfl) (LenL.of (by simpa using e) fun i a n h1 h2 => h (i + 1) a n (by simpa using h1) (by simpa using h2))
theorem LenL.same {H H' : Hp} {L : List Addr} {ls : List Nat} (h : LenL H L ls) (s : Same H H') : LenL H' L ls := Paired.mapP h fun _ _ ⟨xs, a, b⟩ => ⟨xs, s _ _ a, b⟩
theorem LenL.len {H : Hp} {L : List Addr} {ls : List Nat} (h : LenL H L ls) : L.length = ls.length := Paired.length h
theorem LenL.le {H : Hp} {m : Nat} : ∀ {L : List Addr} {ls : List Nat}, LenL H L ls → (∀ a ∈ L, ∀ xs, H a = some (.lst xs) → xs.length ≤ m) → ∀ n ∈ ls, n ≤ m
  | _, _, .nil, _, n, mn => by cases mn
  | _, _, .cons ⟨xs, h1, h2⟩ k, h, n, mn => (List.mem_cons.mp mn).elim (fun e => by rw [e, ← h2]; exact h _ List.mem_cons_self _ h1) (LenL.le k (fun a m => h a (List.mem_cons_of_mem _ m)) n)
theorem GoRs.lens {H : Hp} : ∀ {ts rs gs}, GoRs H ts rs gs → LenL H rs (gs.map fun g => g.c.length)
  | _, _, _, .nil => .nil
  | _, _, _, .cons h k => by
    obtain ⟨xs, e, r⟩ := h.row
    exact .cons ⟨xs, e, r.len⟩ k.lens
theorem PicL.lens {H : Hp} {T A B G X : Addr} {ts rs : List Addr} {p : Pic} (h : PicL H T A B G X ts rs p) : LenL H (A :: B :: G :: X :: rs) (p.a.length :: p.b.length :: p.c.length :: p.d.length :: p.c.map fun g => g.c.length) := by
  obtain ⟨x1, e1, r1⟩ := h.pile
  obtain ⟨x2, e2, r2⟩ := h.pegs
  obtain ⟨x4, e4, r4⟩ := h.boxes
  exact .cons ⟨x1, e1, r1.len⟩ (.cons ⟨x2, e2, r2.len⟩ (.cons ⟨_, h.goings, by rw [List.length_map]; exact h.rows.len.1⟩ (.cons ⟨x4, e4, r4.len⟩ h.rows.lens)))
theorem upd_mem {H : Hp} {a b : Addr} {o : HO} {S : List Addr} (m : a ∈ S) (n : b ∉ S) : upd H a o b = H b := upd_ne fun z => n (by rw [z]; exact m)
theorem Buts.back {H H1 H2 : Hp} {W : List Addr} (s : Same H H1) (n : ∀ a ∈ W, H a = none) (b : Buts W H1 H2) : Same H H2 := fun c o e => b c o (s c o e) fun m => by
  rw [n c m] at e
  cases e
theorem apart_of {H : Hp} {L M : List Addr} (l : Live L H) (n : ∀ a ∈ M, H a = none) : ∀ a ∈ M, a ∉ L := fun a m k => by
  obtain ⟨o, e, _⟩ := l a k
  rw [n a m] at e
  cases e
end G

namespace G
open PySem L2 TL
/-! ### one thing more in a picture -/
theorem riseI_snoc {l : List Int} {n : Int} (h : riseI l = true) (k : ∀ m ∈ l, m < n) : riseI (l ++ [n]) = true := by
  refine rise_of (r := fun a b => decide (a < b)) ?_
  rw [List.pairwise_append]
  exact ⟨(rise_lt h).imp fun e => decide_eq_true e, by simp, fun a ma b mb => by rw [List.mem_singleton.mp mb]; exact decide_eq_true (k a ma)⟩
theorem riseS_pair : ∀ {l : List Str}, riseS l = true → l.Pairwise fun a b => a.cps.toList < b.cps.toList
  | [], _ => .nil
  | [a], _ => by simp
  | a :: b :: l, h => by
    unfold riseS at h
    rw [show ((a :: b :: l).zip ((a :: b :: l).drop 1)) = (a, b) :: ((b :: l).zip ((b :: l).drop 1)) from rfl, List.all_cons, Bool.and_eq_true] at h
    have ih := riseS_pair (l := b :: l) h.2
    refine List.pairwise_cons.mpr ⟨fun c mc => ?_, ih⟩
    have h1 := of_decide_eq_true h.1
    rcases List.mem_cons.mp mc with rfl | mc
    · exact h1
    · exact List.lt_trans h1 ((List.pairwise_cons.mp ih).1 c mc)
theorem riseS_nodup {l : List Str} (h : riseS l = true) : l.Nodup := (riseS_pair h).imp fun {a b} e z => by
  rw [z] at e
  exact List.lt_irrefl _ e
theorem rise_of_lower {l : List (Str × Wo)} (h : l.Pairwise fun e f => lower e.1 f.1) : riseS (l.map (·.1)) = true := by
  refine rise_of (r := fun (a b : Str) => decide (a.cps.toList < b.cps.toList)) ?_
  rw [List.pairwise_map]
  exact h.imp fun {a b} e => decide_eq_true (show a.1.cps.toList < b.1.cps.toList from e)
theorem wo_uniq {H : Hp} {v : V} {a b : Wo} (h : Dat.At H v a) (k : Dat.At H v b) : a = b := by
  obtain ⟨t, e, e1, _⟩ := at_wo.mp h
  obtain ⟨t', e', e2, _⟩ := at_wo.mp k
  rw [e] at e'
  cases e'
  rw [e1] at e2
  simp only [wv] at e2
  injection e2 with e2
  injection e2 with e2
  injection e2 with q1 q2
  injection q1 with q1
  injection q2 with q2
  injection q2 with q2
  exact Prod.ext q1 q2
theorem Ls.inj {H : Hp} {a : Addr} {l m : List Wo} (h : Ls H a l) (k : Ls H a m) : l = m := by
  obtain ⟨xs, e, r⟩ := h
  obtain ⟨ys, e', r'⟩ := k
  rw [e] at e'
  cases e'
  clear e
  induction r generalizing m with
  | nil => cases r'; rfl
  | cons a1 _ ih =>
    cases r' with
    | cons a2 r2 => rw [wo_uniq a1 a2, ih r2]
theorem flat_set {x : List Wo} {g g' : Going} (hx : g'.c = x) : ∀ {c : List Going} {i : Nat}, c[i]? = some g → (((c.set i g').map fun g => g.c).flatten).length + g.c.length = ((c.map fun g => g.c).flatten).length + x.length
  | [], _, h => by cases h
  | y :: r, 0, h => by
    cases h
    rw [List.set_cons_zero, List.map_cons, List.map_cons, List.flatten_cons, List.flatten_cons, List.length_append, List.length_append, hx]
    omega
  | y :: r, i + 1, h => by
    have := flat_set hx (c := r) (i := i) (by simpa using h)
    rw [List.set_cons_succ, List.map_cons, List.map_cons, List.flatten_cons, List.flatten_cons, List.length_append, List.length_append]
    omega
theorem standing_len {p : Pic} : (standingP p).length = p.a.length + p.b.length + p.d.length + ((p.c.map fun g => g.c).flatten).length := by
  unfold standingP
  simp only [List.length_append, List.length_map]
/-- p3 is p with the thing t more; held: whether something of p3 holds it -/
structure Mo (p p3 : Pic) (t : Wo) (held : Prop) : Prop where
  tw : isW t.1 t.2 = true
  tt : isT t = true
  nt : t ∉ thingsP p
  pa : isPileW p3.a = true
  pb : arePegs p3.b = true
  pc : areGoings p3.c = true
  pd : areBoxes p3.d = true
  th : ∀ w, w ∈ thingsP p3 ↔ w ∈ thingsP p ∨ w = t
  st : ∀ w, isT w = true → (w ∈ standingP p3 ↔ w ∈ standingP p ∨ (w = t ∧ held))
section
variable {p p3 : Pic} {t : Wo} {held : Prop} {number : Int} {way : Int}
theorem Mo.fin (h : Mo p p3 t held) (ok : isPic p = true) : isPic p3 = true ↔ held := by
  constructor
  · intro ok3
    obtain ⟨m, tt⟩ := (pic_mem ok3 t).mp ((h.th t).mpr (.inr rfl))
    rcases (h.st t tt).mp m with m | ⟨_, m⟩
    · exact absurd ((pic_mem ok t).mpr ⟨m, tt⟩) h.nt
    · exact m
  · intro hh
    refine isPic_mk h.pa h.pb h.pc h.pd fun w => ?_
    rw [h.th]
    constructor
    · rintro (m | rfl)
      · obtain ⟨m, tt⟩ := (pic_mem ok w).mp m
        exact ⟨(h.st w tt).mpr (.inl m), tt⟩
      · exact ⟨(h.st w h.tt).mpr (.inr ⟨rfl, hh⟩), h.tt⟩
    · rintro ⟨m, tt⟩
      rcases (h.st w tt).mp m with m | ⟨e, _⟩
      · exact .inl ((pic_mem ok w).mpr ⟨m, tt⟩)
      · exact .inr e
theorem mem_things_box {p : Pic} {n : Int} : (("box", n) : Wo) ∈ thingsP p ↔ n ∈ p.d.map (·.1) := by
  unfold thingsP
  rw [List.mem_append]
  constructor
  · rintro (m | m)
    · obtain ⟨r, mr, e⟩ := List.mem_map.mp m
      cases e
      exact List.mem_map_of_mem (f := Prod.fst) mr
    · obtain ⟨r, mr, e⟩ := List.mem_map.mp m
      exact absurd (Prod.mk.inj e).1 (by decide +kernel)
  · intro m
    obtain ⟨r, mr, rfl⟩ := List.mem_map.mp m
    exact .inl (List.mem_map.mpr ⟨r, mr, rfl⟩)
theorem mem_things_go {p : Pic} {n : Int} : (("go", n) : Wo) ∈ thingsP p ↔ n ∈ p.c.map (·.a) := by
  unfold thingsP
  rw [List.mem_append]
  constructor
  · rintro (m | m)
    · obtain ⟨r, mr, e⟩ := List.mem_map.mp m
      exact absurd (Prod.mk.inj e).1 (by decide +kernel)
    · obtain ⟨r, mr, e⟩ := List.mem_map.mp m
      cases e
      exact List.mem_map_of_mem (f := fun r : Going => r.a) mr
  · intro m
    obtain ⟨r, mr, rfl⟩ := List.mem_map.mp m
    exact .inr (List.mem_map.mpr ⟨r, mr, rfl⟩)
theorem mem_standing {p : Pic} {w : Wo} : w ∈ standingP p ↔ w ∈ p.a ∨ (∃ r ∈ p.b, r.2 = w) ∨ (∃ r ∈ p.d, r.2 = w) ∨ ∃ g ∈ p.c, w ∈ g.c := by
  unfold standingP
  simp only [List.mem_append, List.mem_map, List.mem_flatten, or_assoc]
  constructor
  · rintro (h | h | h | ⟨l, ⟨g, mg, rfl⟩, m⟩)
    · exact .inl h
    · exact .inr (.inl h)
    · exact .inr (.inr (.inl h))
    · exact .inr (.inr (.inr ⟨g, mg, m⟩))
  · rintro (h | h | h | ⟨g, mg, m⟩)
    · exact .inl h
    · exact .inr (.inl h)
    · exact .inr (.inr (.inl h))
    · exact .inr (.inr (.inr ⟨_, ⟨g, mg, rfl⟩, m⟩))
theorem Mo.box (ok : isPic p = true) (h0 : 0 ≤ number) (hn : ∀ m ∈ p.d.map (·.1), m < number) {w : Wo} (hw : (way = 2 ∧ w = (("box", number) : Wo)) ∨ (way ≠ 2 ∧ w = (("num", 7) : Wo))) : Mo p ⟨p.a, p.b, p.c, p.d ++ [(number, w)]⟩ ("box", number) (way = 2) := by
  obtain ⟨ha, hb, hc, hd⟩ := isPic_parts ok
  have ww : isW w.1 w.2 = true := by
    rcases hw with ⟨_, rfl⟩ | ⟨_, rfl⟩
    · exact isW_box h0
    · exact isW_num
  refine ⟨isW_box h0, isT_box, fun m => ?_, ha, hb, hc, ?_, fun x => ?_, fun x tx => ?_⟩
  · have := hn number (mem_things_box.mp m)
    omega
  · unfold areBoxes at hd ⊢
    rw [Bool.and_eq_true] at hd ⊢
    obtain ⟨h1, h2⟩ := hd
    refine ⟨?_, ?_⟩
    · rw [List.all_append, h1, Bool.true_and, List.all_cons, List.all_nil, Bool.and_true, ww, Bool.and_true]
      exact decide_eq_true h0
    · rw [List.map_append]
      exact riseI_snoc h2 hn
  · unfold thingsP
    simp only [List.map_append, List.mem_append, List.map_cons, List.map_nil, List.mem_singleton]
    constructor
    · rintro ((m | m) | m)
      · exact .inl (.inl m)
      · exact .inr m
      · exact .inl (.inr m)
    · rintro ((m | m) | m)
      · exact .inl (.inl m)
      · exact .inr m
      · exact .inl (.inr m)
  · rw [mem_standing, mem_standing]
    simp only [List.mem_append, List.mem_singleton]
    constructor
    · rintro (m | m | ⟨r, m | m, e⟩ | m)
      · exact .inl (.inl m)
      · exact .inl (.inr (.inl m))
      · exact .inl (.inr (.inr (.inl ⟨r, m, e⟩)))
      · rw [m] at e
        have e : w = x := e
        rcases hw with ⟨c, rfl⟩ | ⟨c, rfl⟩
        · exact .inr ⟨e.symm, c⟩
        · rw [← e, isT_num] at tx
          cases tx
      · exact .inl (.inr (.inr (.inr m)))
    · rintro ((m | m | ⟨r, m, e⟩ | m) | ⟨e, c⟩)
      · exact .inl m
      · exact .inr (.inl m)
      · exact .inr (.inr (.inl ⟨r, .inl m, e⟩))
      · exact .inr (.inr (.inr m))
      · rcases hw with ⟨_, rfl⟩ | ⟨c2, _⟩
        · exact .inr (.inr (.inl ⟨_, .inr rfl, e.symm⟩))
        · exact absurd c c2
theorem Mo.go (ok : isPic p = true) (h0 : 0 ≤ number) (hn : ∀ m ∈ p.c.map (·.a), m < number) {l : List Wo} (hw : (way = 2 ∧ l = [(("go", number) : Wo)]) ∨ (way ≠ 2 ∧ l = [])) : Mo p ⟨p.a, p.b, p.c ++ [⟨number, 3, l⟩], p.d⟩ ("go", number) (way = 2) := by
  obtain ⟨ha, hb, hc, hd⟩ := isPic_parts ok
  refine ⟨isW_go h0, isT_go, fun m => ?_, ha, hb, ?_, hd, fun x => ?_, fun x tx => ?_⟩
  · have := hn number (mem_things_go.mp m)
    omega
  · unfold areGoings at hc ⊢
    rw [Bool.and_eq_true] at hc ⊢
    obtain ⟨h1, h2⟩ := hc
    refine ⟨?_, ?_⟩
    · rw [List.all_append, h1, Bool.true_and, List.all_cons, List.all_nil, Bool.and_true]
      have : isPileW l = true := by
        rcases hw with ⟨_, rfl⟩ | ⟨_, rfl⟩
        · unfold isPileW
          rw [List.all_cons, List.all_nil, Bool.and_true]
          exact isW_go h0
        · rfl
      rw [this, decide_eq_true h0]
      rfl
    · rw [List.map_append]
      exact riseI_snoc h2 hn
  · unfold thingsP
    simp only [List.map_append, List.mem_append, List.map_cons, List.map_nil, List.mem_singleton, or_assoc]
  · rw [mem_standing, mem_standing]
    simp only [List.mem_append, List.mem_singleton]
    constructor
    · rintro (m | m | m | ⟨g, m | m, e⟩)
      · exact .inl (.inl m)
      · exact .inl (.inr (.inl m))
      · exact .inl (.inr (.inr (.inl m)))
      · exact .inl (.inr (.inr (.inr ⟨g, m, e⟩)))
      · rw [m] at e
        have e : x ∈ l := e
        rcases hw with ⟨c, rfl⟩ | ⟨c, rfl⟩
        · exact .inr ⟨List.mem_singleton.mp e, c⟩
        · cases e
    · rintro ((m | m | m | ⟨g, m, e⟩) | ⟨e, c⟩)
      · exact .inl m
      · exact .inr (.inl m)
      · exact .inr (.inr (.inl m))
      · exact .inr (.inr (.inr ⟨g, .inl m, e⟩))
      · rcases hw with ⟨_, rfl⟩ | ⟨c2, _⟩
        · exact .inr (.inr (.inr ⟨_, .inr rfl, by rw [e]; exact List.mem_singleton.mpr rfl⟩))
        · exact absurd c c2
theorem Mo.pegs (h : Mo p p3 t held) {b2 : List (Str × Wo)} {name : Str} (hb : arePegs b2 = true) (m : ∀ r, r ∈ b2 ↔ r ∈ p3.b ∨ r = (name, t)) : Mo p ⟨p3.a, b2, p3.c, p3.d⟩ t True := by
  refine ⟨h.tw, h.tt, h.nt, h.pa, hb, h.pc, h.pd, h.th, fun w tw => ?_⟩
  have st := h.st w tw
  rw [mem_standing] at st ⊢
  constructor
  · rintro (k | ⟨r, k, e⟩ | k | k)
    · exact (st.mp (.inl k)).imp id fun x => ⟨x.1, trivial⟩
    · rcases (m r).mp k with k | rfl
      · exact (st.mp (.inr (.inl ⟨r, k, e⟩))).imp id fun x => ⟨x.1, trivial⟩
      · exact .inr ⟨e.symm, trivial⟩
    · exact (st.mp (.inr (.inr (.inl k)))).imp id fun x => ⟨x.1, trivial⟩
    · exact (st.mp (.inr (.inr (.inr k)))).imp id fun x => ⟨x.1, trivial⟩
  · rintro (k | ⟨rfl, _⟩)
    · rcases st.mpr (.inl k) with k | ⟨r, k, e⟩ | k
      · exact .inl k
      · exact .inr (.inl ⟨r, (m r).mpr (.inl k), e⟩)
      · exact .inr (.inr k)
    · exact .inr (.inl ⟨_, (m _).mpr (.inr rfl), rfl⟩)
theorem pile_ins {l : List Wo} {i : Nat} {t : Wo} (h : isPileW l = true) (tw : isW t.1 t.2 = true) : isPileW (insAt l i t) = true := by
  unfold isPileW at h ⊢
  rw [List.all_eq_true] at h ⊢
  intro w m
  rcases insAt_mem.mp m with rfl | m
  · exact tw
  · exact h w m
theorem Mo.insA (h : Mo p p3 t held) {i : Nat} : Mo p ⟨insAt p3.a i t, p3.b, p3.c, p3.d⟩ t True := by
  refine ⟨h.tw, h.tt, h.nt, pile_ins h.pa h.tw, h.pb, h.pc, h.pd, h.th, fun w tw => ?_⟩
  have st := h.st w tw
  rw [mem_standing] at st ⊢
  constructor
  · rintro (k | k)
    · rcases insAt_mem.mp k with rfl | k
      · exact .inr ⟨rfl, trivial⟩
      · exact (st.mp (.inl k)).imp id fun x => ⟨x.1, trivial⟩
    · exact (st.mp (.inr k)).imp id fun x => ⟨x.1, trivial⟩
  · rintro (k | ⟨rfl, _⟩)
    · exact (st.mpr (.inl k)).imp (fun k => insAt_mem.mpr (.inr k)) id
    · exact .inl (insAt_mem.mpr (.inl rfl))
theorem Mo.insR (h : Mo p p3 t held) {i j : Nat} {g : Going} (hg : p3.c[i]? = some g) : Mo p ⟨p3.a, p3.b, p3.c.set i ⟨g.a, g.b, insAt g.c j t⟩, p3.d⟩ t True := by
  have hlt := (List.getElem?_eq_some_iff.mp hg).1
  have mem : ∀ x : Going, x ∈ p3.c.set i ⟨g.a, g.b, insAt g.c j t⟩ → x = ⟨g.a, g.b, insAt g.c j t⟩ ∨ x ∈ p3.c := fun x m => (List.mem_or_eq_of_mem_set m).symm
  have ea : (p3.c.set i ⟨g.a, g.b, insAt g.c j t⟩).map (·.a) = p3.c.map (·.a) := by
    rw [List.map_set]
    refine List.ext_getElem? fun k => ?_
    rw [List.getElem?_set]
    split
    · rename_i e
      subst e
      rw [if_pos (by rw [List.length_map]; exact hlt), List.getElem?_map, hg]
      rfl
    · rfl
  have new : (⟨g.a, g.b, insAt g.c j t⟩ : Going) ∈ p3.c.set i ⟨g.a, g.b, insAt g.c j t⟩ := by
    refine List.mem_iff_getElem?.mpr ⟨i, ?_⟩
    rw [List.getElem?_set, if_pos rfl, if_pos hlt]
  have et : thingsP ⟨p3.a, p3.b, p3.c.set i ⟨g.a, g.b, insAt g.c j t⟩, p3.d⟩ = thingsP p3 := by
    have k : ∀ l : List Going, l.map (fun r => (("go", r.a) : Wo)) = (l.map (·.a)).map fun n => (("go", n) : Wo) := fun l => by rw [List.map_map]; rfl
    unfold thingsP
    rw [k, k]
    show _ ++ List.map _ (List.map _ (p3.c.set i ⟨g.a, g.b, insAt g.c j t⟩)) = _
    rw [ea]
  have pc := h.pc
  unfold areGoings at pc
  rw [Bool.and_eq_true, List.all_eq_true] at pc
  refine ⟨h.tw, h.tt, h.nt, h.pa, h.pb, ?_, h.pd, fun w => by rw [et]; exact h.th w, fun w tw => ?_⟩
  · show areGoings (p3.c.set i ⟨g.a, g.b, insAt g.c j t⟩) = true
    unfold areGoings
    rw [Bool.and_eq_true, List.all_eq_true, ea]
    refine ⟨fun x m => ?_, pc.2⟩
    rcases mem x m with rfl | m
    · have := pc.1 g (List.mem_of_getElem? hg)
      simp only [Bool.and_eq_true] at this ⊢
      exact ⟨this.1, this.2.1, pile_ins this.2.2 h.tw⟩
    · exact pc.1 x m
  · have st := h.st w tw
    rw [mem_standing] at st ⊢
    constructor
    · rintro (k | k | k | ⟨x, m, k⟩)
      · exact (st.mp (.inl k)).imp id fun x => ⟨x.1, trivial⟩
      · exact (st.mp (.inr (.inl k))).imp id fun x => ⟨x.1, trivial⟩
      · exact (st.mp (.inr (.inr (.inl k)))).imp id fun x => ⟨x.1, trivial⟩
      · rcases mem x m with rfl | m
        · rcases insAt_mem.mp k with rfl | k
          · exact .inr ⟨rfl, trivial⟩
          · exact (st.mp (.inr (.inr (.inr ⟨g, List.mem_of_getElem? hg, k⟩)))).imp id fun x => ⟨x.1, trivial⟩
        · exact (st.mp (.inr (.inr (.inr ⟨x, m, k⟩)))).imp id fun x => ⟨x.1, trivial⟩
    · rintro (k | ⟨rfl, _⟩)
      · rcases st.mpr (.inl k) with k | k | k | ⟨x, m, k⟩
        · exact .inl k
        · exact .inr (.inl k)
        · exact .inr (.inr (.inl k))
        · obtain ⟨j2, ej⟩ := List.mem_iff_getElem?.mp m
          by_cases e : i = j2
          · subst e
            rw [hg] at ej
            cases ej
            exact .inr (.inr (.inr ⟨_, new, insAt_mem.mpr (.inr k)⟩))
          · exact .inr (.inr (.inr ⟨x, List.mem_iff_getElem?.mpr ⟨j2, by show (p3.c.set i _)[j2]? = _; rw [List.getElem?_set_ne e]; exact ej⟩, k⟩))
      · exact .inr (.inr (.inr ⟨_, new, insAt_mem.mpr (.inl rfl)⟩))
end
end G

namespace G
open PySem L2 PySem.Spec PyProof.Rows
/-- a text times a number -/
def rRepS : R2 := fun x y H Q => ∃ a k, x = .str a ∧ y = .int k ∧ (0 ≤ k ∧ k ≤ 1000 ∧ a.length ≤ 1000) ∧ Q (.str (PySem.Txt.mul a k)) H
theorem mulOk {a : Str} {k : Int} (h0 : 0 ≤ k) (h1 : k ≤ 1000) (h2 : a.length ≤ 1000) : PySem.MulOk a k := by
  refine ⟨?_, fun h _ => ?_, fun h _ => ?_⟩
  · rw [decide_eq_false (by omega), decide_eq_false (by omega)]
    rfl
  · have : (1000 : Int) ≤ (2 ^ 63 - 1) / k := (Int.le_ediv_iff_mul_le (by omega)).mpr (by omega)
    omega
  · have : a.length * k.toNat ≤ 1000 * 1000 := Nat.mul_le_mul h2 (by omega)
    unfold PySem.Builtin.Str.tooLong
    refine decide_eq_false ?_
    simp only [sizeLine]
    omega
theorem op_repS {X : Cx} : OpR X (binaryOp .Mult) rRepS := by
  intro pins s σ H x y v u Q I rx ry h
  obtain ⟨a, k, rfl, rfl, ⟨h0, h1, h2⟩, q⟩ := h
  obtain ⟨t, rfl⟩ := rx
  obtain ⟨t2, rfl⟩ := ry
  exact PySem.SB.mul (mulOk h0 h1 h2) fun t' k' => ⟨.str _, H, I.tok _, ⟨t', rfl⟩, q⟩
end G

namespace G
open PySem L2 TL
/-! ### the swept picture -/
def sweptP (p : Pic) (S : List Wo) : Pic := ⟨p.a, p.b, p.c.filterMap (fun g => if (("go", g.a) : Wo) ∈ S then none else some g), p.d.filterMap fun r => if (("box", r.1) : Wo) ∈ S then none else some r⟩
section
variable {p : Pic} {w : Wo}
theorem fm_filter {α : Type} {P : α → Prop} [DecidablePred P] {l : List α} {a : α} : (a ∈ l.filterMap fun x => if P x then none else some x) ↔ a ∈ l ∧ ¬ P a := by
  rw [List.mem_filterMap]
  constructor
  · rintro ⟨x, m, e⟩
    by_cases c : P x
    · rw [if_pos c] at e
      cases e
    · rw [if_neg c] at e
      cases e
      exact ⟨m, c⟩
  · rintro ⟨m, c⟩
    exact ⟨a, m, if_neg c⟩
theorem fm_sub {α : Type} {P : α → Prop} [DecidablePred P] : ∀ {l : List α}, (l.filterMap fun x => if P x then none else some x).Sublist l
  | [] => .slnil
  | x :: r => by
    rw [List.filterMap_cons]
    by_cases c : P x
    · rw [if_pos c]
      exact .cons _ fm_sub
    · rw [if_neg c]
      exact .cons₂ _ fm_sub
theorem rise_sub {l m : List Int} (s : l.Sublist m) (h : riseI m = true) : riseI l = true := rise_of (r := fun (a b : Int) => decide (a < b)) (((rise_lt h).sublist s).imp fun e => decide_eq_true e)
theorem swept_things : thingsP (sweptP p (lostP p)) = comeP p := by
  rw [← come_again]
  unfold thingsP sweptP
  rw [List.filterMap_append, List.map_filterMap, List.map_filterMap, List.filterMap_map, List.filterMap_map]
  congr 1
  · congr 1
    funext r
    show Option.map _ (if _ then none else some r) = _
    by_cases c : (("box", r.1) : Wo) ∈ lostP p
    · rw [if_pos c]
      exact (if_pos c).symm
    · rw [if_neg c]
      exact (if_neg c).symm
  · congr 1
    funext r
    show Option.map _ (if _ then none else some r) = _
    by_cases c : (("go", r.a) : Wo) ∈ lostP p
    · rw [if_pos c]
      exact (if_pos c).symm
    · rw [if_neg c]
      exact (if_neg c).symm
theorem swept_held {hs : List Wo} (ok : isPic p = true) : (w, hs) ∈ heldP (sweptP p (lostP p)) ↔ (w, hs) ∈ heldP p ∧ w ∉ lostP p := by
  unfold heldP sweptP
  simp only [List.mem_append, List.mem_map]
  constructor
  · rintro (⟨r, m, e⟩ | ⟨g, m, e⟩)
    · obtain ⟨m, c⟩ := fm_filter.mp m
      cases e
      exact ⟨.inl ⟨r, m, rfl⟩, c⟩
    · obtain ⟨m, c⟩ := fm_filter.mp m
      cases e
      exact ⟨.inr ⟨g, m, rfl⟩, c⟩
  · rintro ⟨⟨r, m, e⟩ | ⟨g, m, e⟩, c⟩
    · cases e
      exact .inl ⟨r, fm_filter.mpr ⟨m, c⟩, rfl⟩
    · cases e
      exact .inr ⟨g, fm_filter.mpr ⟨m, c⟩, rfl⟩
theorem come_nd (ok : isPic p = true) : (comeP p).Nodup := by
  rw [← come_again]
  have : (thingsP p).filterMap (fun w => if w ∈ lostP p then none else some w) = (thingsP p).filterMap fun w => if w ∈ lostP p then none else some w := rfl
  exact (things_nd ok).sublist fm_sub
theorem swept_get {hs : List Wo} (ok : isPic p = true) (c : w ∉ lostP p) : getA (heldP (sweptP p (lostP p))) w = some hs ↔ getA (heldP p) w = some hs := by
  have nd : ((heldP (sweptP p (lostP p))).map (·.1)).Nodup := by
    rw [heldP_keys, swept_things]
    exact come_nd ok
  have nd2 : ((heldP p).map (·.1)).Nodup := by
    rw [heldP_keys]
    exact things_nd ok
  exact ⟨fun h => getA_of nd2 ((swept_held ok).mp (getA_mem h)).1, fun h => getA_of nd ((swept_held ok).mpr ⟨getA_mem h, c⟩)⟩
theorem swept_reach (ok : isPic p = true) : Reach (sweptP p (lostP p)) w ↔ Reach p w := by
  constructor
  · intro r
    induction r with
    | root m => exact .root m
    | @step a _ l _ e m ih =>
      have := (swept_held ok).mp (getA_mem e)
      exact .step ih ((swept_get ok this.2).mp e) m
  · intro r
    induction r with
    | root m => exact .root m
    | @step a _ l r e m ih =>
      exact .step ih ((swept_get ok fun k => (mem_lostP.mp k).2 r).mpr e) m
theorem swept_pic (ok : isPic p = true) : isPic (sweptP p (lostP p)) = true := by
  obtain ⟨ha, hb, hc, hd⟩ := isPic_parts ok
  unfold areGoings at hc
  unfold areBoxes at hd
  rw [Bool.and_eq_true, List.all_eq_true] at hc hd
  refine isPic_mk ha hb ?_ ?_ fun w => ?_
  · unfold areGoings
    rw [Bool.and_eq_true, List.all_eq_true]
    exact ⟨fun g m => hc.1 g (fm_filter.mp m).1, rise_sub (fm_sub.map _) hc.2⟩
  · unfold areBoxes
    rw [Bool.and_eq_true, List.all_eq_true]
    exact ⟨fun g m => hd.1 g (fm_filter.mp m).1, rise_sub (fm_sub.map _) hd.2⟩
  · rw [swept_things, mem_comeP ok, mem_standing]
    constructor
    · intro r
      have tt : isT w = true := ((pic_mem ok w).mp (r.thing ok)).2
      refine ⟨?_, tt⟩
      cases r with
      | root m =>
        have := (mem_thingsOf.mp m).1
        rcases List.mem_append.mp this with m | m
        · exact .inl m
        · obtain ⟨x, mx, e⟩ := List.mem_map.mp m
          exact .inr (.inl ⟨x, mx, e⟩)
      | @step a _ l ra e m =>
        have me := getA_mem e
        unfold heldP at me
        have na : a ∉ lostP p := fun k => (mem_lostP.mp k).2 ra
        rcases List.mem_append.mp me with me | me
        · obtain ⟨x, mx, e2⟩ := List.mem_map.mp me
          cases e2
          refine .inr (.inr (.inl ⟨x, fm_filter.mpr ⟨mx, na⟩, ?_⟩))
          exact (List.mem_singleton.mp (mem_thingsOf.mp m).1).symm
        · obtain ⟨x, mx, e2⟩ := List.mem_map.mp me
          cases e2
          exact .inr (.inr (.inr ⟨x, fm_filter.mpr ⟨mx, na⟩, (mem_thingsOf.mp m).1⟩))
    · rintro ⟨m, tt⟩
      rcases m with m | ⟨x, m, e⟩ | ⟨x, m, e⟩ | ⟨x, m, k⟩
      · exact .root (mem_thingsOf.mpr ⟨List.mem_append_left _ m, tt⟩)
      · exact .root (mem_thingsOf.mpr ⟨List.mem_append_right _ (List.mem_map.mpr ⟨x, m, e⟩), tt⟩)
      · obtain ⟨m, c⟩ := fm_filter.mp m
        have mt : (("box", x.1) : Wo) ∈ thingsP p := mem_things_box.mpr (List.mem_map_of_mem (f := Prod.fst) m)
        have r : Reach p ("box", x.1) := Classical.byContradiction fun n => c (mem_lostP.mpr ⟨mt, n⟩)
        refine .step r (getA_of (by rw [heldP_keys]; exact things_nd ok) (show ((("box", x.1) : Wo), thingsOf [x.2]) ∈ heldP p from List.mem_append_left _ (List.mem_map.mpr ⟨x, m, rfl⟩))) (mem_thingsOf.mpr ⟨?_, tt⟩)
        rw [e]
        exact List.mem_singleton.mpr rfl
      · obtain ⟨m, c⟩ := fm_filter.mp m
        have mt : (("go", x.a) : Wo) ∈ thingsP p := mem_things_go.mpr (List.mem_map_of_mem (f := fun g : Going => g.a) m)
        have r : Reach p ("go", x.a) := Classical.byContradiction fun n => c (mem_lostP.mpr ⟨mt, n⟩)
        exact .step r (getA_of (by rw [heldP_keys]; exact things_nd ok) (show ((("go", x.a) : Wo), thingsOf x.c) ∈ heldP p from List.mem_append_right _ (List.mem_map.mpr ⟨x, m, rfl⟩))) (mem_thingsOf.mpr ⟨k, tt⟩)
theorem swept_lost (ok : isPic p = true) : lostP (sweptP p (lostP p)) = [] := by
  refine List.eq_nil_iff_forall_not_mem.mpr fun w m => ?_
  obtain ⟨m, n⟩ := mem_lostP.mp m
  rw [swept_things] at m
  exact n ((swept_reach ok).mpr ((mem_comeP ok).mp m))
theorem fm_none {α : Type} {f : α → Wo} {l : List α} : (l.filterMap fun x => if f x ∈ ([] : List Wo) then none else some x) = l := by
  rw [show (fun x => if f x ∈ ([] : List Wo) then none else some x) = (some : α → Option α) from funext fun x => if_neg (by simp)]
  exact List.filterMap_some
theorem swept_again (ok : isPic p = true) : sweptP (sweptP p (lostP p)) (lostP (sweptP p (lostP p))) = sweptP p (lostP p) := by
  rw [swept_lost ok]
  generalize sweptP p (lostP p) = z
  obtain ⟨a, b, c, d⟩ := z
  unfold sweptP
  rw [fm_none (f := fun g : Going => (("go", g.a) : Wo)), fm_none (f := fun r : Int × Wo => (("box", r.1) : Wo))]
theorem flat_sub {l m : List Going} (s : l.Sublist m) : (l.map fun g => g.c).flatten.length ≤ (m.map fun g => g.c).flatten.length := by
  induction s with
  | slnil => exact Nat.le_refl _
  | cons a _ ih =>
    rw [List.map_cons, List.flatten_cons, List.length_append]
    omega
  | cons_cons a _ ih =>
    rw [List.map_cons, List.map_cons, List.flatten_cons, List.flatten_cons, List.length_append, List.length_append]
    omega
theorem swept_lens {S : List Wo} : (sweptP p S).c.length ≤ p.c.length ∧ (sweptP p S).d.length ≤ p.d.length ∧ ((sweptP p S).c.map fun g => g.c).flatten.length ≤ (p.c.map fun g => g.c).flatten.length := by
  refine ⟨List.length_filterMap_le _ _, List.length_filterMap_le _ _, ?_⟩
  exact flat_sub fm_sub
theorem standing_w (ok : isPic p = true) (m : w ∈ standingP p) : isW w.1 w.2 = true := by
  obtain ⟨ha, hb, hc, hd⟩ := isPic_parts ok
  unfold isPileW at ha
  unfold arePegs at hb
  unfold areGoings at hc
  unfold areBoxes at hd
  rw [Bool.and_eq_true, List.all_eq_true] at hb hc hd
  rw [List.all_eq_true] at ha
  rcases mem_standing.mp m with m | ⟨x, m, e⟩ | ⟨x, m, e⟩ | ⟨x, m, k⟩
  · exact ha w m
  · have := hb.1 x m
    rw [Bool.and_eq_true] at this
    exact e ▸ this.2
  · have := hd.1 x m
    rw [Bool.and_eq_true] at this
    exact e ▸ this.2
  · have := hc.1 x m
    rw [Bool.and_eq_true, Bool.and_eq_true] at this
    unfold isPileW at this
    exact List.all_eq_true.mp this.2.2 w k
theorem twin_pic (ok : isPic p = true) {number place : Int} {name : Str} {row : List Wo} {b2 : List (Str × Wo)} (h0 : 0 ≤ number) (hn : ∀ m ∈ p.c.map (·.a), m < number) (hr : ∀ w ∈ row, w ∈ standingP p) (hp : 0 ≤ place) (hb : arePegs b2 = true) (mb : ∀ r, r ∈ b2 ↔ r ∈ p.b ∨ r = (name, (("go", number) : Wo))) :
    isPic ⟨p.a, b2, p.c ++ [⟨number, place, row⟩], p.d⟩ = true := by
  obtain ⟨ha, _, hc, hd⟩ := isPic_parts ok
  refine isPic_mk ha hb ?_ hd fun w => ?_
  · unfold areGoings at hc ⊢
    rw [Bool.and_eq_true] at hc ⊢
    obtain ⟨h1, h2⟩ := hc
    refine ⟨?_, ?_⟩
    · rw [List.all_append, h1, Bool.true_and, List.all_cons, List.all_nil, Bool.and_true]
      have : isPileW row = true := by
        unfold isPileW
        rw [List.all_eq_true]
        exact fun w m => standing_w ok (hr w m)
      rw [this, decide_eq_true h0, decide_eq_true hp]
      rfl
    · rw [List.map_append]
      exact riseI_snoc h2 hn
  · have hth : w ∈ thingsP ⟨p.a, b2, p.c ++ [⟨number, place, row⟩], p.d⟩ ↔ w ∈ thingsP p ∨ w = (("go", number) : Wo) := by
      unfold thingsP
      simp only [List.map_append, List.mem_append, List.map_cons, List.map_nil, List.mem_singleton, or_assoc]
    rw [hth, pic_mem ok, mem_standing, mem_standing]
    simp only [List.mem_append, List.mem_singleton]
    constructor
    · rintro (⟨m, tt⟩ | rfl)
      · refine ⟨?_, tt⟩
        rcases m with m | ⟨x, m, e⟩ | m | ⟨x, m, k⟩
        · exact .inl m
        · exact .inr (.inl ⟨x, (mb x).mpr (.inl m), e⟩)
        · exact .inr (.inr (.inl m))
        · exact .inr (.inr (.inr ⟨x, .inl m, k⟩))
      · exact ⟨.inr (.inl ⟨_, (mb _).mpr (.inr rfl), rfl⟩), isT_go⟩
    · rintro ⟨m, tt⟩
      rcases m with m | ⟨x, m, e⟩ | m | ⟨x, m | m, k⟩
      · exact .inl ⟨.inl m, tt⟩
      · rcases (mb x).mp m with m | rfl
        · exact .inl ⟨.inr (.inl ⟨x, m, e⟩), tt⟩
        · exact .inr e.symm
      · exact .inl ⟨.inr (.inr (.inl m)), tt⟩
      · exact .inl ⟨.inr (.inr (.inr ⟨x, m, k⟩)), tt⟩
      · rw [m] at k
        exact .inl ⟨mem_standing.mp (hr w k), tt⟩
theorem xs_names : ∀ k : Nat, k < 8 → isName (PySem.Txt.mul "x" (1 + (k : Int))) = true := by decide +kernel
end
end G

namespace Q

open PySem L2 G TL
open G.Dat (At)
def top (i : Nat) : Stmt := PySem.Challenge.pw_manygoings_k23_swept_pictures.main.body.getD i (.Pass ⟨0, 0, 0, 0⟩)
section
variable {P : Program} {w : World} {K : PySem.W.Frag} {mg : Str → Option Value} {base : Heap}

/-! ### is_whole -/
abbrev s_is_whole : Stmt := top 2
theorem sc_is_whole : FnScope ["thing"] ["thing"] (defScope s_is_whole) := ⟨rfl, rfl, rfl, by decide +kernel, rfl, by decide +kernel, by decide +kernel⟩
def sp_is_whole (K : PySem.W.Frag) : Sp := fun vs H Q _ => ∃ (v : V) (T : String), vs = [v] ∧ TyX K H v (.type T) ∧ T ∈ kinds7 ∧ Q (.bl (T == "int")) H
theorem ok_is_whole {fa : Addr} {fd : FuncData} (F : Fun K "is_whole" "is_whole" s_is_whole fa fd) (TX : Tx mg) :
    FnOk P w K mg base CX0 1 fa fd ["thing"] (sp_is_whole K) := by
  refine F.ok sc_is_whole (fun vs H Q E h => ?_) (fun cdv A outer s H vs Q E hr h => ?_)
  · obtain ⟨v, T, rfl, hT, hm, q⟩ := h
    rfl
  · obtain ⟨v, T, rfl, hT, hm, q⟩ := h
    have hu := hu_of hr
    have hu64 := hr.units
    have hu65 := hu65_of hr
    rw [← whole_of T hm] at q
    refine ⟨_, (pss_one (ps_ret (pe_and (pe_callB call_isi (by rfl) TX.n_isinstance (by decide +kernel) (pa_cons (pv 0) (pa_cons (pe_bltn (v := .ty "int") (by rfl) TX.n_int (by decide +kernel) rfl) pa_nil))) (pe_one (pe_not (pe_callB call_isi (by rfl) TX.n_isinstance (by decide +kernel) (pa_cons (pv 0) (pa_cons (pe_bltn (v := .ty "bool") (by rfl) TX.n_bool (by decide +kernel) rfl) pa_nil)))))))), ?_⟩
    refine r_begin (show L2.start _ _ = [some _] from rfl) ?_
    try dsimp only [cxOf]
    walk_at "rr"
    refine r_isi hT (kit_int T hm) ?_
    walk_at "rr"
    refine r_ite (fun hc => ?_) (fun hc => ?_)
    · walk_at "rr"
      refine r_isi hT (kit_bool T hm) ?_
      walk_at "rr"
      rw [hc, Bool.true_and] at q
      exact q
    · rw [hc, Bool.false_and] at q
      exact q
/-! ### is_worth -/
abbrev s_is_worth : Stmt := top 3
theorem sc_is_worth : FnScope ["thing", "word", "number"] ["thing"] (defScope s_is_worth) := ⟨rfl, rfl, rfl, by decide +kernel, rfl, by decide +kernel, by decide +kernel⟩
def sp_is_worth (K : PySem.W.Frag) : Sp := fun vs H Q _ => ∃ (v : V) (b : Bool), vs = [v] ∧ Th K H v b ∧ Q (.bl b) H
theorem ok_is_worth {fa : Addr} {fd : FuncData} (F : Fun K "is_worth" "is_worth" s_is_worth fa fd) (TX : Tx mg)
    (C_is_whole : Cal P w K mg base CX0 1 "is_whole" ["thing"] (sp_is_whole K))
    {dM : Addr} {esM : Array DictEntry} {nM : Nat}
    (d_MARKS : KDict K w dM esM nM)
    (g_MARKS : mg "MARKS" = some (.ref dM))
    (m_MARKS : ∀ z : Str, ∃ r, PySem.W.nsIn K dM z = some r ∧ match marks.find? (fun p => decide (p.1 = z)) with | some p => ∃ t, r = some (.str p.2 t) | none => r = none) :
    FnOk P w K mg base CX0 2 fa fd ["thing"] (sp_is_worth K) := by
  refine F.ok sc_is_worth (fun vs H Q E h => ?_) (fun cdv A outer s H vs Q E hr h => ?_)
  · obtain ⟨v, b, rfl, hT, q⟩ := h
    rfl
  · obtain ⟨v, b, rfl, hT, q⟩ := h
    have hu := hu_of hr
    have hu64 := hr.units
    have hu65 := hu65_of hr
    refine ⟨_, (pss_cons (ps_if (PW.pt (pw_or (pt_not (pt_val (pe_callB call_isi (by rfl) TX.n_isinstance (by decide +kernel) (pa_cons (pv 0) (pa_cons (pe_bltn (v := .ty "tuple") (by rfl) TX.n_tuple (by decide +kernel) rfl) pa_nil))))) (pw_or1 (pt_cmpR op_ne (pe_callB call_len (by rfl) TX.n_len (by decide +kernel) (pa_cons (pv 0) pa_nil)) pe_int (nomark _))))) (pss_one (ps_ret pe_bl)) pss_nil)
  (pss_cons (ps_asg (pv 0) (pg_tup rfl (pgs_cons (pg_name (i := 1) sc_is_worth.nd rfl (Or.inl rfl)) (pgs_cons (pg_name (i := 2) sc_is_worth.nd rfl (Or.inl rfl)) pgs_nil))))
  (pss_cons (ps_if (PW.pt (pw_or (pt_not (pt_val (pe_callB call_isi (by rfl) TX.n_isinstance (by decide +kernel) (pa_cons (pv 1) (pa_cons (pe_bltn (v := .ty "str") (by rfl) TX.n_str (by decide +kernel) rfl) pa_nil))))) (pw_or1 (pt_not (pt_val (pe_cal C_is_whole (hr.mono (by decide)) (by rfl) pass0 (pa_cons (pv 2) pa_nil))))))) (pss_one (ps_ret pe_bl)) pss_nil)
  (pss_one (ps_ret (pe_or (pe_cmpR op_eq (pv 1) pe_str (nomark _)) (pe_one (pe_and (pe_cmpR (op_in_kd d_MARKS) (pv 1) (pe_glob (v := .ref _) (by rfl) g_MARKS rfl) (by with_unfolding_all rfl)) (pe_one (pe_cmpR op_ge (pv 2) pe_int (nomark _))))))))))), ?_⟩
    refine r_begin (show L2.start _ _ = [some _, none, none] from rfl) ?_
    try dsimp only [cxOf]
    walk_at "rr"
    cases hT with
    | @other v T h m n =>
      refine r_isi h (kit_tuple T m) ?_
      rw [n]
      walk_at "rr"
      try refine r_itT rfl ?_
      walk_at "rr"
      try refine r_itT rfl ?_
      walk_at "rr"
      exact q
    | @tupN a xs h n =>
      refine r_isi (ty_tup h) (kit_tuple _ (by decide)) ?_
      walk_at "rr"
      try refine r_itF rfl ?_
      walk_at "rr"
      refine ⟨_, _, rfl, .inr ⟨xs, .inl (.inl h), rfl⟩, ?_⟩
      walk_at "rr"
      refine r_nd (fun hc => ?_) (fun hc => ?_)
      · walk_at "rr"
        exact q
      · try injection hc with hc
        omega
    | @tupX a x y T h hx m n =>
      refine r_isi (ty_tup h) (kit_tuple _ (by decide)) ?_
      walk_at "rr"
      try refine r_itF rfl ?_
      walk_at "rr"
      refine ⟨_, _, rfl, .inr ⟨[x, y], .inl (.inl h), rfl⟩, ?_⟩
      walk_at "rr"
      try refine r_itF rfl ?_
      walk_at "rr"
      refine r_isi hx (kit_str _ m) ?_
      rw [n]
      walk_at "rr"
      try refine r_itT rfl ?_
      walk_at "rr"
      try refine r_itT rfl ?_
      walk_at "rr"
      exact q
    | @tupY a s y T h hy m n =>
      refine r_isi (ty_tup h) (kit_tuple _ (by decide)) ?_
      walk_at "rr"
      try refine r_itF rfl ?_
      walk_at "rr"
      refine ⟨_, _, rfl, .inr ⟨[.str s, y], .inl (.inl h), rfl⟩, ?_⟩
      walk_at "rr"
      try refine r_itF rfl ?_
      walk_at "rr"
      try refine r_isi ty_str (kit_str _ (by decide)) ?_
      walk_at "rr"
      try refine r_itF rfl ?_
      walk_at "rr"
      refine ⟨y, T, rfl, hy, m, ?_⟩
      rw [n]
      walk_at "rr"
      try refine r_itT rfl ?_
      walk_at "rr"
      exact q
    | @tupW a s n h =>
      refine r_isi (ty_tup h) (kit_tuple _ (by decide)) ?_
      walk_at "rr"
      try refine r_itF rfl ?_
      walk_at "rr"
      refine ⟨_, _, rfl, .inr ⟨[.str s, .int n], .inl (.inl h), rfl⟩, ?_⟩
      walk_at "rr"
      try refine r_itF rfl ?_
      walk_at "rr"
      try refine r_isi ty_str (kit_str _ (by decide)) ?_
      walk_at "rr"
      try refine r_itF rfl ?_
      walk_at "rr"
      refine ⟨.int n, "int", rfl, ty_int, by decide, ?_⟩
      walk_at "rr"
      try refine r_itF rfl ?_
      walk_at "rr"
      unfold isW at q
      refine r_d (fun hc => ?_) (fun hc => ?_)
      · try injection hc with hc
        subst hc
        exact q
      · have e1 : (s == "num") = false := beq_eq_false_iff_ne.mpr fun e => hc (by rw [e])
        rw [e1, Bool.false_or] at q
        walk_at "rr"
        obtain ⟨r, er, is'⟩ := m_MARKS s
        have is : r.isSome = (s == "num" || (s == "at" || s == "box" || s == "go")) := by
          rw [← marks_some]
          cases e : marks.find? (fun p => decide (p.1 = s)) with
          | none =>
            rw [e] at is'
            have : r = none := is'
            rw [this]
            rfl
          | some p =>
            rw [e] at is'
            obtain ⟨t, ht⟩ := is'
            rw [ht]
            rfl
        refine ⟨s, r, rfl, rfl, er, ?_⟩
        rw [is, e1, Bool.false_or]
        walk_at "rr"
        refine r_ite (fun hc => ?_) (fun hc => ?_)
        · rw [hc, Bool.true_and] at q
          walk_at "rr"
          exact q
        · rw [hc, Bool.false_and] at q
          exact q
/-! ### is_thing -/
abbrev s_is_thing : Stmt := top 4
theorem sc_is_thing : FnScope ["worth"] ["worth"] (defScope s_is_thing) := ⟨rfl, rfl, rfl, by decide +kernel, rfl, by decide +kernel, by decide +kernel⟩
def sp_is_thing (_ : PySem.W.Frag) : Sp := fun vs H Q _ => ∃ (v : V) (w : Wo), vs = [v] ∧ WoAt H v w ∧ Q (.bl (isT w)) H
theorem ok_is_thing {fa : Addr} {fd : FuncData} (F : Fun K "is_thing" "is_thing" s_is_thing fa fd) (TX : Tx mg) :
    FnOk P w K mg base CX0 1 fa fd ["worth"] (sp_is_thing K) := by
  refine F.ok sc_is_thing (fun vs H Q E h => ?_) (fun cdv A outer s H vs Q E hr h => ?_)
  · obtain ⟨v, w, rfl, ⟨a, rfl, h, _⟩, q⟩ := h
    rfl
  · obtain ⟨v, w, rfl, ⟨a, rfl, h, _⟩, q⟩ := h
    have hu := hu_of hr
    have hu64 := hr.units
    have hu65 := hu65_of hr
    unfold wv at h
    unfold isT at q
    refine ⟨_, (pss_one (ps_ret (pe_or (pe_cmpR op_eq (pe_ix ix_tup (pv 0) pe_int (fun _ _ => rfl)) pe_str (nomark _)) (pe_one (pe_cmpR op_eq (pe_ix ix_tup (pv 0) pe_int (fun _ _ => rfl)) pe_str (nomark _)))))), ?_⟩
    refine r_begin (show L2.start _ _ = [some _] from rfl) ?_
    try dsimp only [cxOf]
    walk_at "rr"
    first | rw [dec_str] | rw [dec_s]
    refine r_ite (fun hc => ?_) (fun hc => ?_)
    · rw [hc, Bool.true_or] at q
      exact q
    · rw [hc, Bool.false_or] at q
      walk_at "rr"
      first | rw [dec_str] | rw [dec_s]
      exact q
/-! ### things_of -/
abbrev s_things_of : Stmt := top 5
theorem sc_things_of : FnScope ["worths", "found", "worth"] ["worths"] (defScope s_things_of) := ⟨rfl, rfl, rfl, by decide +kernel, rfl, by decide +kernel, by decide +kernel⟩
def sp_things_of (K : PySem.W.Frag) : Sp := fun vs H Q _ => ∃ (a : Addr) (xs : List V) (ws : List Wo), vs = [.ref a] ∧ SqL K H a xs ∧ Wos H xs ws ∧ xs.length ≤ 100000 ∧
  ∀ (p : Addr) (ys : List V) (H' : Hp), H p = none → Same H H' → H' p = some (.lst ys) → Wos H' ys (thingsOf ws) → Q (.ref p) H'
theorem tho {K : PySem.W.Frag} {ns : List Addr} {H : Hp} {v : V} {l : List Wo} {Q : VK} {E : XK} (lv : Live ns H) (h : At (del ns H) v l) (hl : l.length ≤ 100000) (q : ∀ (p : Addr) (H' : Hp), H p = none → Same H H' → At (del ns H') (.ref p) (thingsOf l) → Q (.ref p) H') : sp_things_of K [v] H Q E := by
  obtain ⟨a, xs, rfl, ea, rx⟩ := h
  exact ⟨a, xs, l, rfl, .inl (.inl (of_del ea).1), ats_wos.mp (rx.same del_sub), by rw [rx.len]; exact hl, fun p ys H' hp s e w => q p H' hp s (at_of_wos (lv.same s) (lv.not hp) e w)⟩
theorem ok_things_of {fa : Addr} {fd : FuncData} (F : Fun K "things_of" "things_of" s_things_of fa fd) (TX : Tx mg)
    (C_is_thing : Cal P w K mg base CX0 1 "is_thing" ["worth"] (sp_is_thing K)) :
    FnOk P w K mg base CX0 2 fa fd ["worths"] (sp_things_of K) := by
  refine F.ok sc_things_of (fun vs H Q E h => ?_) (fun cdv A outer s H vs Q E hr h => ?_)
  · obtain ⟨a, xs, ws, rfl, hS, hw, hz, k⟩ := h
    rfl
  · obtain ⟨a, xs, ws, rfl, hS, hw, hz, k⟩ := h
    have hu := hu_of hr
    have hu64 := hr.units
    have hu65 := hu65_of hr
    have hlen := hw.len
    refine ⟨_, (pss_cons (ps_set (i := 1) sc_things_of.nd rfl (Or.inl rfl) pe_dnewT)
  (pss_cons (ps_for PassesOwn.never rfl (pi_list (pv 0)) (pg_name (i := 2) sc_things_of.nd rfl (Or.inl rfl))
  (pss_one (ps_if (pt_val (pe_cal C_is_thing (hr.mono (by decide)) (by rfl) pass0 (pa_cons (pv 2) pa_nil))) (pss_one (ps_dput hu (pv 1) (pv 2) pe_bl rfl)) pss_nil)))
  (pss_one (ps_ret (pe_callTy (call_list_dT rfl) (by rfl) TX.n_list (by decide +kernel) (pa_cons (pv 1) pa_nil)))))), ?_⟩
    refine r_begin (show L2.start _ _ = [some _, none, none] from rfl) ?_
    try dsimp only [cxOf]
    intro d hd
    walk_at "rr"
    refine r_ilv ((same_new hd).seq hS) ?_
    refine L_list (fun i σ H' => ∃ y : Option V, σ = [some (.ref a), some (.ref d), y] ∧ Same H H' ∧ H' d = some (.dT (tdict ((ws.take i).foldl thStep [])))) ⟨none, rfl, same_new hd, upd_same⟩ (fun i σ H' _ ⟨_, _, s, _⟩ => s.seq hS) ?_ ?_
    · rintro i x σ H1 hx ⟨y, rfl, s1, hd1⟩
      obtain ⟨w, ew, hw1⟩ := hw.get hx
      have hl := things_len (ws.take i)
      have hi : i < xs.length := (List.getElem?_eq_some_iff.mp hx).1
      rw [List.length_take] at hl
      walk_at "rr"
      refine ⟨x, w, rfl, hw1.same s1, ?_⟩
      walk_at "rr"
      obtain ⟨b, rfl, hb, _⟩ := hw1.same s1
      have estep := foldl_take thStep [] ws i w ew
      refine r_ite (fun hc => ?_) (fun hc => ?_)
      · refine r_dput ?_
        walk_at "rr"
        refine ⟨d, _, rfl, DPut.t (k := wk w) hd1 hb (by rw [tdict_len]; exact szl (Nat.lt_of_le_of_lt (Nat.le_trans hl (Nat.min_le_left _ _)) (by omega))), ?_⟩
        refine ⟨_, rfl, fun c o e => ?_, ?_⟩
        · rw [upd_ne (ne_of_none e hd)]
          exact s1 _ _ e
        · rw [upd_same, tdict_put, estep]
          by_cases m : w ∈ (ws.take i).foldl thStep []
          · rw [if_pos m, thStep_old m]
          · rw [if_neg m, thStep_new hc m]
      · walk_at "rr"
        refine ⟨_, rfl, s1, ?_⟩
        rw [hd1, estep, thStep_no hc]
    · rintro σ H1 ⟨y, rfl, s1, hd1⟩
      rw [hlen, List.take_length] at hd1
      walk_at "rr"
      refine ⟨d, _, rfl, .inl hd1, fun p bs hp hk => ?_⟩
      exact k p _ _ (s1.free hp) (s1.trans (same_new hp)) upd_same ((keys_wos (fun w m => hw.ok w (mem_things m).1) hk).same (same_new hp))
/-! ### is_name -/
abbrev s_is_name : Stmt := top 8
theorem sc_is_name : FnScope ["thing", "sign"] ["thing"] (defScope s_is_name) := ⟨rfl, rfl, rfl, by decide +kernel, rfl, by decide +kernel, by decide +kernel⟩
def sp_is_name (_ : PySem.W.Frag) : Sp := fun vs H Q _ => ∃ z : Str, vs = [.str z] ∧ z.length ≤ 1000 ∧ ∀ H', Same H H' → Q (.bl (isName z)) H'
theorem ok_is_name {fa : Addr} {fd : FuncData} (F : Fun K "is_name" "is_name" s_is_name fa fd) (TX : Tx mg)
    {tLe : Tok}
    (g_LETTERS : mg "LETTERS" = some (.str "abcdefghijklmnopqrstuvwxyz" tLe)) :
    FnOk P w K mg base CX0 1 fa fd ["thing"] (sp_is_name K) := by
  refine F.ok sc_is_name (fun vs H Q E h => ?_) (fun cdv A outer s H vs Q E hr h => ?_)
  · obtain ⟨z, rfl, lz, q⟩ := h
    rfl
  · obtain ⟨z, rfl, lz, q⟩ := h
    have hu := hu_of hr
    have hu64 := hr.units
    have hu65 := hu65_of hr
    refine ⟨_, (pss_cons (ps_if (PW.pt (pw_or (pt_not (pt_val (pe_callB call_isi (by rfl) TX.n_isinstance (by decide +kernel) (pa_cons (pv 0) (pa_cons (pe_bltn (v := .ty "str") (by rfl) TX.n_str (by decide +kernel) rfl) pa_nil))))) (pw_or1 (pt_not (pt_chain op_le op_le pe_int (pe_callB call_len (by rfl) TX.n_len (by decide +kernel) (pa_cons (pv 0) pa_nil)) pe_int))))) (pss_one (ps_ret pe_bl)) pss_nil)
  (pss_one (ps_ret (pe_callB (cr_all rfl) (by rfl) TX.n_all (by decide +kernel) (pa_cons (pe_lc (own := [("sign", 1)]) (g := gName 1) (tt := tYes) rfl sc_is_name.nd (pi_str (pv 0)) (blkOk_by (own := [("sign", 1)]) (N := ["thing", "sign"]) (sc := defScope s_is_name) (by decide +kernel)) (fun _ _ _ _ _ => (pg_name (i := 1) sc_is_name.nd rfl (Or.inl rfl))) (fun _ _ _ _ _ => pts_nil) (fun _ _ _ _ _ => (pe_cmpR op_in_sign (pv 1) (pe_glob (v := .str _) (by rfl) g_LETTERS ⟨_, rfl⟩) rfl))) pa_nil))))), ?_⟩
    refine r_begin (show L2.start _ _ = [some _, none] from rfl) ?_
    try dsimp only [cxOf]
    walk_at "rr"
    refine r_lenS (y := z) (sz (by omega)) ?_
    walk_at "rr"
    have e1 : decide ((1 : Int) ≤ (z.length : Nat)) = decide (1 ≤ z.length) := decide_eq_decide.mpr (by omega)
    have e2 : decide (((z.length : Nat) : Int) ≤ 8) = decide (z.length ≤ 8) := decide_eq_decide.mpr (by omega)
    unfold isName at q
    rw [e1]
    refine r_ite (fun hc => ?_) (fun hc => ?_)
    · rw [hc, Bool.true_and] at q
      walk_at "rr"
      rw [e2]
      refine r_nd (fun hc2 => ?_) (fun hc2 => ?_)
      · rw [decide_eq_false hc2, Bool.false_and] at q
        walk_at "rr"
        exact q H (Same.refl _)
      · rw [decide_eq_true hc2, Bool.true_and] at q
        walk_at "rr"
        refine ⟨z, rfl, ?_⟩
        refine CS (fun c => some (decide (c ∈ lets))) (Live.nil (H := H)) ?_ ?_
        · rintro D i b zs H1 eb k
          walk_at "rr"
          refine ⟨b, _, rfl, rfl, ?_⟩
          exact k.mput eb rfl (Same.refl _) rfl (by rw [Array.length_toList]; show z.length ≤ _; omega)
        · rintro D H1 hD s1 h1
          walk_at "rr"
          refine r_allA h1 ?_
          have := q H1 s1
          rw [List.filterMap_eq_map', List.all_map]
          exact this
    · rw [hc, Bool.false_and, Bool.false_and] at q
      walk_at "rr"
      exact q H (Same.refl _)
/-! ### is_place -/
abbrev s_is_place : Stmt := top 9
theorem sc_is_place : FnScope ["thing"] ["thing"] (defScope s_is_place) := ⟨rfl, rfl, rfl, by decide +kernel, rfl, by decide +kernel, by decide +kernel⟩
def sp_is_place (_ : PySem.W.Frag) : Sp := fun vs H Q _ => ∃ n : Int, vs = [.int n] ∧ Q (.bl (decide (0 ≤ n))) H
theorem ok_is_place {fa : Addr} {fd : FuncData} (F : Fun K "is_place" "is_place" s_is_place fa fd) (TX : Tx mg) :
    FnOk P w K mg base CX0 1 fa fd ["thing"] (sp_is_place K) := by
  refine F.ok sc_is_place (fun vs H Q E h => ?_) (fun cdv A outer s H vs Q E hr h => ?_)
  · obtain ⟨n, rfl, q⟩ := h
    rfl
  · obtain ⟨n, rfl, q⟩ := h
    have hu := hu_of hr
    have hu64 := hr.units
    have hu65 := hu65_of hr
    refine ⟨_, (pss_one (ps_ret (pe_and (pe_callB call_isi (by rfl) TX.n_isinstance (by decide +kernel) (pa_cons (pv 0) (pa_cons (pe_bltn (v := .ty "int") (by rfl) TX.n_int (by decide +kernel) rfl) pa_nil))) (pe_and (pe_not (pe_callB call_isi (by rfl) TX.n_isinstance (by decide +kernel) (pa_cons (pv 0) (pa_cons (pe_bltn (v := .ty "bool") (by rfl) TX.n_bool (by decide +kernel) rfl) pa_nil)))) (pe_one (pe_cmpR op_ge (pv 0) pe_int (nomark _))))))), ?_⟩
    refine r_begin (show L2.start _ _ = [some _] from rfl) ?_
    try dsimp only [cxOf]
    walk_at "rr"
    exact q
/-! ### is_pile -/
abbrev s_is_pile : Stmt := top 10
theorem sc_is_pile : FnScope ["thing", "one"] ["thing"] (defScope s_is_pile) := ⟨rfl, rfl, rfl, by decide +kernel, rfl, by decide +kernel, by decide +kernel⟩
def sp_is_pile (_ : PySem.W.Frag) : Sp := fun vs H Q _ => ∃ (ns : List Addr) (v : V) (l : List Wo), vs = [v] ∧ Live ns H ∧ At (del ns H) v l ∧ l.length ≤ 90000 ∧ ∀ H', Same H H' → Q (.bl (isPileW l)) H'
theorem ok_is_pile {fa : Addr} {fd : FuncData} (F : Fun K "is_pile" "is_pile" s_is_pile fa fd) (TX : Tx mg)
    (C_is_worth : Cal P w K mg base CX0 2 "is_worth" ["thing"] (sp_is_worth K)) :
    FnOk P w K mg base CX0 3 fa fd ["thing"] (sp_is_pile K) := by
  refine F.ok sc_is_pile (fun vs H Q E h => ?_) (fun cdv A outer s H vs Q E hr h => ?_)
  · obtain ⟨ns, v, l, rfl, lv, hv, hl, q⟩ := h
    rfl
  · obtain ⟨ns, v, l, rfl, lv, hv, hl, q⟩ := h
    have hu := hu_of hr
    have hu64 := hr.units
    have hu65 := hu65_of hr
    refine ⟨_, (pss_one (ps_ret (pe_and (pe_callB call_isi (by rfl) TX.n_isinstance (by decide +kernel) (pa_cons (pv 0) (pa_cons (pe_bltn (v := .ty "list") (by rfl) TX.n_list (by decide +kernel) rfl) pa_nil))) (pe_one (pe_callB (cr_all rfl) (by rfl) TX.n_all (by decide +kernel) (pa_cons (pe_lc (own := [("one", 1)]) (g := gName 1) (tt := tYes) rfl sc_is_pile.nd (pi_list (pv 0)) (blkOk_by (own := [("one", 1)]) (N := ["thing", "one"]) (sc := defScope s_is_pile) (by decide +kernel)) (fun _ _ _ _ _ => (pg_name (i := 1) sc_is_pile.nd rfl (Or.inl rfl))) (fun _ _ _ _ _ => pts_nil) (fun _ _ _ _ _ => (pe_cal C_is_worth (hr.mono (by decide)) (by rfl) pass0 (pa_cons (pv 1) pa_nil)))) pa_nil)))))), ?_⟩
    refine r_begin (show L2.start _ _ = [some _, none] from rfl) ?_
    try dsimp only [cxOf]
    walk_at "rr"
    refine r_isi (ty_listA hv) (b := true) (by decide) ?_
    walk_at "rr"
    refine CM (fun w : Wo => some (isW w.1 w.2)) lv hv ?_ ?_
    · rintro D i x b zs H1 eb k hb
      obtain ⟨t, rfl, et, ok⟩ := at_wo.mp (at_sub hb)
      walk_at "rr"
      refine ⟨.ref t, _, rfl, .tupW et, ?_⟩
      exact k.mput eb rfl (Same.refl _) rfl
    · rintro D H1 hD s1 hr
      walk_at "rr"
      refine r_allA hr ?_
      rw [List.filterMap_eq_map', List.all_map]
      exact q H1 s1
/-! ### is_row -/
abbrev s_is_row : Stmt := top 11
theorem sc_is_row : FnScope ["thing", "many"] ["thing", "many"] (defScope s_is_row) := ⟨rfl, rfl, rfl, by decide +kernel, rfl, by decide +kernel, by decide +kernel⟩
def sp_is_row (K : PySem.W.Frag) : Sp := fun vs H Q _ => ∃ (v : V) (t : Addr) (xs : List V) (n : Int), vs = [v, .int n] ∧ v = .ref t ∧ H t = some (.tup xs) ∧ Q (.bl (decide ((xs.length : Int) = n))) H
theorem ok_is_row {fa : Addr} {fd : FuncData} (F : Fun K "is_row" "is_row" s_is_row fa fd) (TX : Tx mg) :
    FnOk P w K mg base CX0 1 fa fd ["thing", "many"] (sp_is_row K) := by
  refine F.ok sc_is_row (fun vs H Q E h => ?_) (fun cdv A outer s H vs Q E hr h => ?_)
  · obtain ⟨v, t, xs, n, rfl, rfl, et, q⟩ := h
    rfl
  · obtain ⟨v, t, xs, n, rfl, rfl, et, q⟩ := h
    have hu := hu_of hr
    have hu64 := hr.units
    have hu65 := hu65_of hr
    refine ⟨_, (pss_one (ps_ret (pe_and (pe_callB call_isi (by rfl) TX.n_isinstance (by decide +kernel) (pa_cons (pv 0) (pa_cons (pe_bltn (v := .ty "tuple") (by rfl) TX.n_tuple (by decide +kernel) rfl) pa_nil))) (pe_one (pe_cmpR op_eq (pe_callB call_len (by rfl) TX.n_len (by decide +kernel) (pa_cons (pv 0) pa_nil)) (pv 1) (nomark _)))))), ?_⟩
    refine r_begin (show L2.start _ _ = [some _, some _] from rfl) ?_
    try dsimp only [cxOf]
    walk_at "rr"
    refine r_isi (ty_tup et) (b := true) (by decide) ?_
    walk_at "rr"
    refine r_lent et ?_
    walk_at "rr"
    try rw [dint']
    exact q
/-! ### rise -/
abbrev s_rise : Stmt := top 12
theorem sc_rise : FnScope ["firsts", "one", "other"] ["firsts"] (defScope s_rise) := ⟨rfl, rfl, rfl, by decide +kernel, rfl, by decide +kernel, by decide +kernel⟩
def sp_rise (_ : PySem.W.Frag) : Sp := fun vs H Q _ => ∃ (ns : List Addr) (v : V), vs = [v] ∧ Live ns H ∧ ((∃ l : List Int, At (del ns H) v l ∧ l.length ≤ 90000 ∧ ∀ H', Same H H' → Q (.bl (riseI l)) H') ∨ ∃ l : List Str, At (del ns H) v l ∧ l.length ≤ 90000 ∧ ∀ H', Same H H' → Q (.bl (riseS l)) H')
theorem ok_rise {fa : Addr} {fd : FuncData} (F : Fun K "rise" "rise" s_rise fa fd) (TX : Tx mg) :
    FnOk P w K mg base CX0 1 fa fd ["firsts"] (sp_rise K) := by
  refine F.ok sc_rise (fun vs H Q E h => ?_) (fun cdv A outer s H vs Q E hr h => ?_)
  · obtain ⟨ns, v, rfl, lv, hv⟩ := h
    rfl
  · obtain ⟨ns, v, rfl, lv, hv⟩ := h
    have hu := hu_of hr
    have hu64 := hr.units
    have hu65 := hu65_of hr
    refine ⟨_, (pss_one (ps_ret (pe_callB (cr_all rfl) (by rfl) TX.n_all (by decide +kernel) (pa_cons (pe_lc (own := [("one", 1), ("other", 2)]) (g := gTup K 2 (gCons (gName 1) (gCons (gName 2) gNil))) (tt := tYes) rfl sc_rise.nd (pi_zip (by rfl) TX.zip (pa_cons (pv 0) (pa_cons (pe_slice sl_list (pv 0) (po_some pe_int) po_none) pa_nil))) (blkOk_by (own := [("one", 1), ("other", 2)]) (N := ["firsts", "one", "other"]) (sc := defScope s_rise) (by decide +kernel)) (fun _ _ _ _ _ => (kPG (gTup K _ _) (pg_tup rfl (pgs_cons (pg_name (i := 1) sc_rise.nd rfl (Or.inl rfl)) (pgs_cons (pg_name (i := 2) sc_rise.nd rfl (Or.inl rfl)) pgs_nil))) rfl)) (fun _ _ _ _ _ => pts_nil) (fun _ _ _ _ _ => (pe_cmpR (kOpR (fun x y H Q => (rI0 fun i j => .bl (decide (i < j))) x y H Q ∨ ∃ i j, x = .str i ∧ y = .str j ∧ Q (.bl (decide (i.cps.toList < j.cps.toList))) H) (op_lt.or op_lt_str) rfl) (pv 1) (pv 2) (nomark _)))) pa_nil)))), ?_⟩
    refine r_begin (show L2.start _ _ = [some _, none, none] from rfl) ?_
    try dsimp only [cxOf]
    walk_at "rr"
    rcases hv with ⟨l, hv, hl, q⟩ | ⟨l, hv, hl, q⟩
    · refine r_slA lv hv fun p H1 hp s1 h1 => ?_
      rw [show cutL l (some 1) none = l.drop 1 from cutL_from l 1] at h1
      have hv1 := (Fr.of lv s1).at_ hv
      walk_at "rr"
      refine CZ (fun ab : Int × Int => some (decide (ab.1 < ab.2))) (lv.same s1) hv1 h1 ?_ ?_
      · rintro D i x ⟨b1, b2⟩ zs H2 eb k hb
        walk_at "rr"
        refine r_t2 hb fun x y hx hy => ?_
        obtain rfl : x = .int b1 := hx
        obtain rfl : y = .int b2 := hy
        walk_at "rr"
        refine .inl (r_i0 ?_)
        exact k.mput eb rfl (Same.refl _) rfl (by rw [List.length_zip]; omega)
      · rintro D H2 hD s2 hr
        walk_at "rr"
        refine r_allA hr ?_
        rw [List.filterMap_eq_map', List.all_map]
        exact q H2 (s1.trans s2)
    · refine r_slA lv hv fun p H1 hp s1 h1 => ?_
      rw [show cutL l (some 1) none = l.drop 1 from cutL_from l 1] at h1
      have hv1 := (Fr.of lv s1).at_ hv
      walk_at "rr"
      refine CZ (fun ab : Str × Str => some (decide (ab.1.cps.toList < ab.2.cps.toList))) (lv.same s1) hv1 h1 ?_ ?_
      · rintro D i x ⟨b1, b2⟩ zs H2 eb k hb
        walk_at "rr"
        refine r_t2 hb fun x y hx hy => ?_
        obtain ⟨rfl, _⟩ : x = .str b1 ∧ _ := hx
        obtain ⟨rfl, _⟩ : y = .str b2 ∧ _ := hy
        walk_at "rr"
        refine .inr ⟨_, _, rfl, rfl, ?_⟩
        exact k.mput eb rfl (Same.refl _) rfl (by rw [List.length_zip]; omega)
      · rintro D H2 hD s2 hr
        walk_at "rr"
        refine r_allA hr ?_
        rw [List.filterMap_eq_map', List.all_map]
        exact q H2 (s1.trans s2)
/-! ### are_pegs -/
abbrev s_are_pegs : Stmt := top 13
theorem sc_are_pegs : FnScope ["thing", "row"] ["thing"] (defScope s_are_pegs) := ⟨rfl, rfl, rfl, by decide +kernel, rfl, by decide +kernel, by decide +kernel⟩
def sp_are_pegs (_ : PySem.W.Frag) : Sp := fun vs H Q _ => ∃ (ns : List Addr) (v : V) (l : List (Str × Wo)), vs = [v] ∧ Live ns H ∧ At (del ns H) v l ∧ l.length ≤ 90000 ∧ (∀ r ∈ l, r.1.length ≤ 1000) ∧ ∀ H', Same H H' → Q (.bl (arePegs l)) H'
theorem ok_are_pegs {fa : Addr} {fd : FuncData} (F : Fun K "are_pegs" "are_pegs" s_are_pegs fa fd) (TX : Tx mg)
    (C_is_name : Cal P w K mg base CX0 1 "is_name" ["thing"] (sp_is_name K))
    (C_is_row : Cal P w K mg base CX0 1 "is_row" ["thing", "many"] (sp_is_row K))
    (C_is_worth : Cal P w K mg base CX0 2 "is_worth" ["thing"] (sp_is_worth K))
    (C_rise : Cal P w K mg base CX0 1 "rise" ["firsts"] (sp_rise K)) :
    FnOk P w K mg base CX0 3 fa fd ["thing"] (sp_are_pegs K) := by
  refine F.ok sc_are_pegs (fun vs H Q E h => ?_) (fun cdv A outer s H vs Q E hr h => ?_)
  · obtain ⟨ns, v, l, rfl, lv, hv, hl, hx, q⟩ := h
    rfl
  · obtain ⟨ns, v, l, rfl, lv, hv, hl, hx, q⟩ := h
    have hu := hu_of hr
    have hu64 := hr.units
    have hu65 := hu65_of hr
    refine ⟨_, (pss_cons (ps_if (pt_not (pt_val (pe_callB call_isi (by rfl) TX.n_isinstance (by decide +kernel) (pa_cons (pv 0) (pa_cons (pe_bltn (v := .ty "list") (by rfl) TX.n_list (by decide +kernel) rfl) pa_nil))))) (pss_one (ps_ret pe_bl)) pss_nil)
  (pss_cons (ps_for PassesOwn.never rfl (pi_list (pv 0)) (pg_name (i := 1) sc_are_pegs.nd rfl (Or.inl rfl))
  (pss_one (ps_if (PW.pt (pw_or (pt_not (pt_val (pe_cal C_is_row (hr.mono (by decide)) (by rfl) pass0 (pa_cons (pv 1) (pa_cons pe_int pa_nil))))) (pw_or (pt_not (pt_val (pe_cal C_is_name (hr.mono (by decide)) (by rfl) pass0 (pa_cons (pe_ix ix_tup (pv 1) pe_int (fun _ _ => rfl)) pa_nil)))) (pw_or1 (pt_not (pt_val (pe_cal C_is_worth (hr.mono (by decide)) (by rfl) pass0 (pa_cons (pe_ix ix_tup (pv 1) pe_int (fun _ _ => rfl)) pa_nil)))))))) (pss_one (ps_ret pe_bl)) pss_nil)))
  (pss_one (ps_ret (pe_cal C_rise (hr.mono (by decide)) (by rfl) pass0 (pa_cons (pe_lc (own := [("row", 1)]) (g := gName 1) (tt := tYes) rfl sc_are_pegs.nd (pi_list (pv 0)) (blkOk_by (own := [("row", 1)]) (N := ["thing", "row"]) (sc := defScope s_are_pegs) (by decide +kernel)) (fun _ _ _ _ _ => (pg_name (i := 1) sc_are_pegs.nd rfl (Or.inl rfl))) (fun _ _ _ _ _ => pts_nil) (fun _ _ _ _ _ => (pe_ix (kIxR (rIxT K) ix_tup rfl) (pv 1) pe_int (fun _ _ => rfl)))) pa_nil)))))), ?_⟩
    refine r_begin (show L2.start _ _ = [some _, none] from rfl) ?_
    try dsimp only [cxOf]
    walk_at "rr"
    refine r_isi (ty_listA hv) (b := true) (by decide) ?_
    walk_at "rr"
    unfold arePegs at q
    refine LA (ms := ns) hv (fun i σ H1 => ∃ u, σ = [some v, u] ∧ Same H H1 ∧ (l.take i).all (fun r : Str × Wo => isName r.1 && isW r.2.1 r.2.2) = true) ⟨_, rfl, Same.refl _, rfl⟩ (fun i σ H1 _ ⟨_, _, s, _⟩ => .of lv s) ?_ ?_
    · rintro i b x σ H1 eb hb ⟨u, rfl, s1, al⟩
      have bad : (fun r : Str × Wo => isName r.1 && isW r.2.1 r.2.2) b = false → l.all (fun r : Str × Wo => isName r.1 && isW r.2.1 r.2.2) = false := fun h => by
        rw [List.all_eq_false]
        exact ⟨b, List.mem_of_getElem? eb, fun e => absurd (h.symm.trans e) (by decide)⟩
      have next : (fun r : Str × Wo => isName r.1 && isW r.2.1 r.2.2) b = true → (l.take (i + 1)).all (fun r : Str × Wo => isName r.1 && isW r.2.1 r.2.2) = true := fun h => by
        rw [List.take_add_one, eb, List.all_append, al]
        simpa using h
      have lv1 := lv.same s1
      obtain ⟨t, y, z, rfl, et, ⟨rfl, oky⟩, hw⟩ := hb
      walk_at "rr"
      refine ⟨_, t, _, 2, rfl, rfl, (of_del et).1, ?_⟩
      walk_at "rr"
      refine r_itF rfl ?_
      walk_at "rr"
      refine r_ixt (of_del et).1 rfl ?_
      walk_at "rr"
      refine ⟨b.1, rfl, hx b (List.mem_of_getElem? eb), fun H2 s2 => ?_⟩
      walk_at "rr"
      cases hn : isName b.1 with
      | false =>
        walk_at "rr"
        rw [bad (by simp [hn]), Bool.false_and] at q
        exact q H2 (s1.trans s2)
      | true =>
        have hw2 := (Fr.of lv1 s2).at_ hw
        have et2 := s2 _ _ (of_del et).1
        walk_at "rr"
        obtain ⟨tw, rfl, etw, okw⟩ := at_wo.mp (at_sub hw2)
        walk_at "rr"
        refine ⟨.ref tw, _, rfl, .tupW etw, ?_⟩
        walk_at "rr"
        cases hww : isW b.2.1 b.2.2 with
        | false =>
          walk_at "rr"
          rw [bad (by simp [hww]), Bool.false_and] at q
          exact q H2 (s1.trans s2)
        | true =>
          walk_at "rr"
          exact ⟨_, rfl, s1.trans s2, next (by simp [hn, hww])⟩
    · rintro σ H1 ⟨u, rfl, s1, al⟩
      rw [List.take_length] at al
      rw [al, Bool.true_and] at q
      walk_at "rr"
      refine CM (fun r : Str × Wo => some r.1) (lv.same s1) ((Fr.of lv s1).at_ hv) ?_ ?_
      · rintro D i x b zs H2 eb k hb
        walk_at "rr"
        refine r_x20 hb fun y hy => ?_
        exact k.mput eb rfl (Same.refl _) hy
      · rintro D H2 hD s2 h2
        walk_at "rr"
        rw [List.filterMap_eq_map'] at h2
        refine ⟨ns, _, rfl, lv.same (s1.trans s2), .inr ⟨_, h2, by rw [List.length_map]; exact hl, fun H3 s3 => ?_⟩⟩
        exact q H3 ((s1.trans s2).trans s3)
/-! ### are_goings -/
abbrev s_are_goings : Stmt := top 14
theorem sc_are_goings : FnScope ["thing", "row"] ["thing"] (defScope s_are_goings) := ⟨rfl, rfl, rfl, by decide +kernel, rfl, by decide +kernel, by decide +kernel⟩
def sp_are_goings (_ : PySem.W.Frag) : Sp := fun vs H Q _ => ∃ (ns : List Addr) (v : V) (l : List Going), vs = [v] ∧ Live ns H ∧ At (del ns H) v l ∧ l.length ≤ 90000 ∧ (∀ r ∈ l, r.c.length ≤ 90000) ∧ ∀ H', Same H H' → Q (.bl (areGoings l)) H'
theorem ok_are_goings {fa : Addr} {fd : FuncData} (F : Fun K "are_goings" "are_goings" s_are_goings fa fd) (TX : Tx mg)
    (C_is_pile : Cal P w K mg base CX0 3 "is_pile" ["thing"] (sp_is_pile K))
    (C_is_place : Cal P w K mg base CX0 1 "is_place" ["thing"] (sp_is_place K))
    (C_is_row : Cal P w K mg base CX0 1 "is_row" ["thing", "many"] (sp_is_row K))
    (C_rise : Cal P w K mg base CX0 1 "rise" ["firsts"] (sp_rise K)) :
    FnOk P w K mg base CX0 4 fa fd ["thing"] (sp_are_goings K) := by
  refine F.ok sc_are_goings (fun vs H Q E h => ?_) (fun cdv A outer s H vs Q E hr h => ?_)
  · obtain ⟨ns, v, l, rfl, lv, hv, hl, hx, q⟩ := h
    rfl
  · obtain ⟨ns, v, l, rfl, lv, hv, hl, hx, q⟩ := h
    have hu := hu_of hr
    have hu64 := hr.units
    have hu65 := hu65_of hr
    refine ⟨_, (pss_cons (ps_if (pt_not (pt_val (pe_callB call_isi (by rfl) TX.n_isinstance (by decide +kernel) (pa_cons (pv 0) (pa_cons (pe_bltn (v := .ty "list") (by rfl) TX.n_list (by decide +kernel) rfl) pa_nil))))) (pss_one (ps_ret pe_bl)) pss_nil)
  (pss_cons (ps_for PassesOwn.never rfl (pi_list (pv 0)) (pg_name (i := 1) sc_are_goings.nd rfl (Or.inl rfl))
  (pss_one (ps_if (PW.pt (pw_or (pt_not (pt_val (pe_cal C_is_row (hr.mono (by decide)) (by rfl) pass0 (pa_cons (pv 1) (pa_cons pe_int pa_nil))))) (pw_or (pt_not (pt_val (pe_cal C_is_place (hr.mono (by decide)) (by rfl) pass0 (pa_cons (pe_ix ix_tup (pv 1) pe_int (fun _ _ => rfl)) pa_nil)))) (pw_or (pt_not (pt_val (pe_cal C_is_place (hr.mono (by decide)) (by rfl) pass0 (pa_cons (pe_ix ix_tup (pv 1) pe_int (fun _ _ => rfl)) pa_nil)))) (pw_or1 (pt_not (pt_val (pe_cal C_is_pile (hr.mono (by decide)) (by rfl) pass0 (pa_cons (pe_ix ix_tup (pv 1) pe_int (fun _ _ => rfl)) pa_nil))))))))) (pss_one (ps_ret pe_bl)) pss_nil)))
  (pss_one (ps_ret (pe_cal C_rise (hr.mono (by decide)) (by rfl) pass0 (pa_cons (pe_lc (own := [("row", 1)]) (g := gName 1) (tt := tYes) rfl sc_are_goings.nd (pi_list (pv 0)) (blkOk_by (own := [("row", 1)]) (N := ["thing", "row"]) (sc := defScope s_are_goings) (by decide +kernel)) (fun _ _ _ _ _ => (pg_name (i := 1) sc_are_goings.nd rfl (Or.inl rfl))) (fun _ _ _ _ _ => pts_nil) (fun _ _ _ _ _ => (pe_ix (kIxR (rIxT K) ix_tup rfl) (pv 1) pe_int (fun _ _ => rfl)))) pa_nil)))))), ?_⟩
    refine r_begin (show L2.start _ _ = [some _, none] from rfl) ?_
    try dsimp only [cxOf]
    walk_at "rr"
    refine r_isi (ty_listA hv) (b := true) (by decide) ?_
    walk_at "rr"
    unfold areGoings at q
    refine LA (ms := ns) hv (fun i σ H1 => ∃ u, σ = [some v, u] ∧ Same H H1 ∧ (l.take i).all (fun r : Going => decide (0 ≤ r.a) && (decide (0 ≤ r.b) && isPileW r.c)) = true) ⟨_, rfl, Same.refl _, rfl⟩ (fun i σ H1 _ ⟨_, _, s, _⟩ => .of lv s) ?_ ?_
    · rintro i b x σ H1 eb hb ⟨u, rfl, s1, al⟩
      have bad : (fun r : Going => decide (0 ≤ r.a) && (decide (0 ≤ r.b) && isPileW r.c)) b = false → l.all (fun r : Going => decide (0 ≤ r.a) && (decide (0 ≤ r.b) && isPileW r.c)) = false := fun h => by
        rw [List.all_eq_false]
        exact ⟨b, List.mem_of_getElem? eb, fun e => absurd (h.symm.trans e) (by decide)⟩
      have next : (fun r : Going => decide (0 ≤ r.a) && (decide (0 ≤ r.b) && isPileW r.c)) b = true → (l.take (i + 1)).all (fun r : Going => decide (0 ≤ r.a) && (decide (0 ≤ r.b) && isPileW r.c)) = true := fun h => by
        rw [List.take_add_one, eb, List.all_append, al]
        simpa using h
      have lv1 := lv.same s1
      obtain ⟨t, y, z, y3, rfl, et, rfl, rfl, hw⟩ := hb
      walk_at "rr"
      refine ⟨_, t, _, 3, rfl, rfl, (of_del et).1, ?_⟩
      walk_at "rr"
      refine r_itF rfl ?_
      walk_at "rr"
      refine r_ixt (of_del et).1 rfl ?_
      walk_at "rr"
      refine ⟨b.a, rfl, ?_⟩
      walk_at "rr"
      cases hn : decide (0 ≤ b.a) with
      | false =>
        walk_at "rr"
        rw [bad (by simp [hn]), Bool.false_and] at q
        exact q H1 s1
      | true =>
        walk_at "rr"
        refine r_ixt (of_del et).1 rfl ?_
        walk_at "rr"
        refine ⟨b.b, rfl, ?_⟩
        walk_at "rr"
        cases hm : decide (0 ≤ b.b) with
        | false =>
          walk_at "rr"
          rw [bad (by simp [hm]), Bool.false_and] at q
          exact q H1 s1
        | true =>
          walk_at "rr"
          refine r_ixt (of_del et).1 rfl ?_
          walk_at "rr"
          refine ⟨ns, _, _, rfl, lv1, hw, hx b (List.mem_of_getElem? eb), fun H2 s2 => ?_⟩
          walk_at "rr"
          cases hww : isPileW b.c with
          | false =>
            walk_at "rr"
            rw [bad (by simp [hww]), Bool.false_and] at q
            exact q H2 (s1.trans s2)
          | true =>
            walk_at "rr"
            exact ⟨_, rfl, s1.trans s2, next (by show (decide (0 ≤ b.a) && (decide (0 ≤ b.b) && isPileW b.c)) = true; rw [hn, hm, hww]; rfl)⟩
    · rintro σ H1 ⟨u, rfl, s1, al⟩
      rw [List.take_length] at al
      rw [al, Bool.true_and] at q
      walk_at "rr"
      refine CM (fun r : Going => some r.a) (lv.same s1) ((Fr.of lv s1).at_ hv) ?_ ?_
      · rintro D i x b zs H2 eb k hb
        walk_at "rr"
        refine r_x30 hb fun y hy => ?_
        exact k.mput eb rfl (Same.refl _) hy
      · rintro D H2 hD s2 h2
        walk_at "rr"
        rw [List.filterMap_eq_map'] at h2
        refine ⟨ns, _, rfl, lv.same (s1.trans s2), .inl ⟨_, h2, by rw [List.length_map]; exact hl, fun H3 s3 => ?_⟩⟩
        exact q H3 ((s1.trans s2).trans s3)
/-! ### are_boxes -/
abbrev s_are_boxes : Stmt := top 15
theorem sc_are_boxes : FnScope ["thing", "row"] ["thing"] (defScope s_are_boxes) := ⟨rfl, rfl, rfl, by decide +kernel, rfl, by decide +kernel, by decide +kernel⟩
def sp_are_boxes (_ : PySem.W.Frag) : Sp := fun vs H Q _ => ∃ (ns : List Addr) (v : V) (l : List (Int × Wo)), vs = [v] ∧ Live ns H ∧ At (del ns H) v l ∧ l.length ≤ 90000 ∧ ∀ H', Same H H' → Q (.bl (areBoxes l)) H'
theorem ok_are_boxes {fa : Addr} {fd : FuncData} (F : Fun K "are_boxes" "are_boxes" s_are_boxes fa fd) (TX : Tx mg)
    (C_is_place : Cal P w K mg base CX0 1 "is_place" ["thing"] (sp_is_place K))
    (C_is_row : Cal P w K mg base CX0 1 "is_row" ["thing", "many"] (sp_is_row K))
    (C_is_worth : Cal P w K mg base CX0 2 "is_worth" ["thing"] (sp_is_worth K))
    (C_rise : Cal P w K mg base CX0 1 "rise" ["firsts"] (sp_rise K)) :
    FnOk P w K mg base CX0 3 fa fd ["thing"] (sp_are_boxes K) := by
  refine F.ok sc_are_boxes (fun vs H Q E h => ?_) (fun cdv A outer s H vs Q E hr h => ?_)
  · obtain ⟨ns, v, l, rfl, lv, hv, hl, q⟩ := h
    rfl
  · obtain ⟨ns, v, l, rfl, lv, hv, hl, q⟩ := h
    have hu := hu_of hr
    have hu64 := hr.units
    have hu65 := hu65_of hr
    refine ⟨_, (pss_cons (ps_if (pt_not (pt_val (pe_callB call_isi (by rfl) TX.n_isinstance (by decide +kernel) (pa_cons (pv 0) (pa_cons (pe_bltn (v := .ty "list") (by rfl) TX.n_list (by decide +kernel) rfl) pa_nil))))) (pss_one (ps_ret pe_bl)) pss_nil)
  (pss_cons (ps_for PassesOwn.never rfl (pi_list (pv 0)) (pg_name (i := 1) sc_are_boxes.nd rfl (Or.inl rfl))
  (pss_one (ps_if (PW.pt (pw_or (pt_not (pt_val (pe_cal C_is_row (hr.mono (by decide)) (by rfl) pass0 (pa_cons (pv 1) (pa_cons pe_int pa_nil))))) (pw_or (pt_not (pt_val (pe_cal C_is_place (hr.mono (by decide)) (by rfl) pass0 (pa_cons (pe_ix ix_tup (pv 1) pe_int (fun _ _ => rfl)) pa_nil)))) (pw_or1 (pt_not (pt_val (pe_cal C_is_worth (hr.mono (by decide)) (by rfl) pass0 (pa_cons (pe_ix ix_tup (pv 1) pe_int (fun _ _ => rfl)) pa_nil)))))))) (pss_one (ps_ret pe_bl)) pss_nil)))
  (pss_one (ps_ret (pe_cal C_rise (hr.mono (by decide)) (by rfl) pass0 (pa_cons (pe_lc (own := [("row", 1)]) (g := gName 1) (tt := tYes) rfl sc_are_boxes.nd (pi_list (pv 0)) (blkOk_by (own := [("row", 1)]) (N := ["thing", "row"]) (sc := defScope s_are_boxes) (by decide +kernel)) (fun _ _ _ _ _ => (pg_name (i := 1) sc_are_boxes.nd rfl (Or.inl rfl))) (fun _ _ _ _ _ => pts_nil) (fun _ _ _ _ _ => (pe_ix (kIxR (rIxT K) ix_tup rfl) (pv 1) pe_int (fun _ _ => rfl)))) pa_nil)))))), ?_⟩
    refine r_begin (show L2.start _ _ = [some _, none] from rfl) ?_
    try dsimp only [cxOf]
    walk_at "rr"
    refine r_isi (ty_listA hv) (b := true) (by decide) ?_
    walk_at "rr"
    unfold areBoxes at q
    refine LA (ms := ns) hv (fun i σ H1 => ∃ u, σ = [some v, u] ∧ Same H H1 ∧ (l.take i).all (fun r : Int × Wo => decide (0 ≤ r.1) && isW r.2.1 r.2.2) = true) ⟨_, rfl, Same.refl _, rfl⟩ (fun i σ H1 _ ⟨_, _, s, _⟩ => .of lv s) ?_ ?_
    · rintro i b x σ H1 eb hb ⟨u, rfl, s1, al⟩
      have bad : (fun r : Int × Wo => decide (0 ≤ r.1) && isW r.2.1 r.2.2) b = false → l.all (fun r : Int × Wo => decide (0 ≤ r.1) && isW r.2.1 r.2.2) = false := fun h => by
        rw [List.all_eq_false]
        exact ⟨b, List.mem_of_getElem? eb, fun e => absurd (h.symm.trans e) (by decide)⟩
      have next : (fun r : Int × Wo => decide (0 ≤ r.1) && isW r.2.1 r.2.2) b = true → (l.take (i + 1)).all (fun r : Int × Wo => decide (0 ≤ r.1) && isW r.2.1 r.2.2) = true := fun h => by
        rw [List.take_add_one, eb, List.all_append, al]
        simpa using h
      have lv1 := lv.same s1
      obtain ⟨t, y, z, rfl, et, rfl, hw⟩ := hb
      walk_at "rr"
      refine ⟨_, t, _, 2, rfl, rfl, (of_del et).1, ?_⟩
      walk_at "rr"
      refine r_itF rfl ?_
      walk_at "rr"
      refine r_ixt (of_del et).1 rfl ?_
      walk_at "rr"
      refine ⟨b.1, rfl, ?_⟩
      walk_at "rr"
      cases hn : decide (0 ≤ b.1) with
      | false =>
        walk_at "rr"
        rw [bad (by simp [hn]), Bool.false_and] at q
        exact q H1 s1
      | true =>
        walk_at "rr"
        refine r_ixt (of_del et).1 rfl ?_
        obtain ⟨tw, rfl, etw, okw⟩ := at_wo.mp (at_sub hw)
        walk_at "rr"
        refine ⟨.ref tw, _, rfl, .tupW etw, ?_⟩
        walk_at "rr"
        cases hww : isW b.2.1 b.2.2 with
        | false =>
          walk_at "rr"
          rw [bad (by simp [hww]), Bool.false_and] at q
          exact q H1 s1
        | true =>
          walk_at "rr"
          exact ⟨_, rfl, s1, next (by show (decide (0 ≤ b.1) && isW b.2.1 b.2.2) = true; rw [hn, hww]; rfl)⟩
    · rintro σ H1 ⟨u, rfl, s1, al⟩
      rw [List.take_length] at al
      rw [al, Bool.true_and] at q
      walk_at "rr"
      refine CM (fun r : Int × Wo => some r.1) (lv.same s1) ((Fr.of lv s1).at_ hv) ?_ ?_
      · rintro D i x b zs H2 eb k hb
        walk_at "rr"
        refine r_x20 hb fun y hy => ?_
        exact k.mput eb rfl (Same.refl _) hy
      · rintro D H2 hD s2 h2
        walk_at "rr"
        rw [List.filterMap_eq_map'] at h2
        refine ⟨ns, _, rfl, lv.same (s1.trans s2), .inl ⟨_, h2, by rw [List.length_map]; exact hl, fun H3 s3 => ?_⟩⟩
        exact q H3 ((s1.trans s2).trans s3)
/-! ### standing -/
abbrev s_standing : Stmt := top 16
theorem sc_standing : FnScope ["picture", "pile", "pegs", "goings", "boxes", "found", "g", "place", "row", "name", "worth", "b"] ["picture"] (defScope s_standing) := ⟨rfl, rfl, rfl, by decide +kernel, rfl, by decide +kernel, by decide +kernel⟩
def sp_standing (_ : PySem.W.Frag) : Sp := fun vs H Q _ => ∃ (ns : List Addr) (v : V) (p : Pic), vs = [v] ∧ Live ns H ∧ At (del ns H) v p ∧ (standingP p).length ≤ 90000 ∧ p.c.length ≤ 90000 ∧ ∀ r H', Same H H' → H r = none → At (del ns H') (.ref r) (standingP p) → Q (.ref r) H'
theorem ok_standing {fa : Addr} {fd : FuncData} (F : Fun K "standing" "standing" s_standing fa fd) (TX : Tx mg) :
    FnOk P w K mg base CX0 1 fa fd ["picture"] (sp_standing K) := by
  refine F.ok sc_standing (fun vs H Q E h => ?_) (fun cdv A outer s H vs Q E hr h => ?_)
  · obtain ⟨ns, v, p, rfl, lv, hv, hl, hl2, q⟩ := h
    rfl
  · obtain ⟨ns, v, p, rfl, lv, hv, hl, hl2, q⟩ := h
    have hu := hu_of hr
    have hu64 := hr.units
    have hu65 := hu65_of hr
    unfold standingP at hl q
    rw [List.length_append, List.length_append, List.length_append] at hl
    have l1 : (p.b.map (·.2)).length = p.b.length := List.length_map _
    have l2 : (p.d.map (·.2)).length = p.d.length := List.length_map _
    refine ⟨_, (pss_cons (ps_asg (pv 0) (pg_tup rfl (pgs_cons (pg_name (i := 1) sc_standing.nd rfl (Or.inl rfl)) (pgs_cons (pg_name (i := 2) sc_standing.nd rfl (Or.inl rfl)) (pgs_cons (pg_name (i := 3) sc_standing.nd rfl (Or.inl rfl)) (pgs_cons (pg_name (i := 4) sc_standing.nd rfl (Or.inl rfl)) pgs_nil))))))
  (pss_cons (ps_set (i := 5) sc_standing.nd rfl (Or.inl rfl) (pe_op op_cat (pe_op op_cat (pv 1) (pe_lc (own := [("name", 9), ("worth", 10)]) (g := gTup K 2 (gCons (gName 9) (gCons (gName 10) gNil))) (tt := tYes) rfl sc_standing.nd (pi_list (pv 2)) (blkOk_by (own := [("name", 9), ("worth", 10)]) (N := ["picture", "pile", "pegs", "goings", "boxes", "found", "g", "place", "row", "name", "worth", "b"]) (sc := defScope s_standing) (by decide +kernel)) (fun _ _ _ _ _ => (kPG (gTup K _ _) (pg_tup rfl (pgs_cons (pg_name (i := 9) sc_standing.nd rfl (Or.inl rfl)) (pgs_cons (pg_name (i := 10) sc_standing.nd rfl (Or.inl rfl)) pgs_nil))) rfl)) (fun _ _ _ _ _ => pts_nil) (fun _ _ _ _ _ => (pv 10)))) (pe_lc (own := [("b", 11), ("worth", 10)]) (g := gTup K 2 (gCons (gName 11) (gCons (gName 10) gNil))) (tt := tYes) rfl sc_standing.nd (pi_list (pv 4)) (blkOk_by (own := [("b", 11), ("worth", 10)]) (N := ["picture", "pile", "pegs", "goings", "boxes", "found", "g", "place", "row", "name", "worth", "b"]) (sc := defScope s_standing) (by decide +kernel)) (fun _ _ _ _ _ => (kPG (gTup K _ _) (pg_tup rfl (pgs_cons (pg_name (i := 11) sc_standing.nd rfl (Or.inl rfl)) (pgs_cons (pg_name (i := 10) sc_standing.nd rfl (Or.inl rfl)) pgs_nil))) rfl)) (fun _ _ _ _ _ => pts_nil) (fun _ _ _ _ _ => (pv 10)))))
  (pss_cons (ps_for PassesOwn.never rfl (pi_list (pv 3)) (pg_tup rfl (pgs_cons (pg_name (i := 6) sc_standing.nd rfl (Or.inl rfl)) (pgs_cons (pg_name (i := 7) sc_standing.nd rfl (Or.inl rfl)) (pgs_cons (pg_name (i := 8) sc_standing.nd rfl (Or.inl rfl)) pgs_nil))))
  (pss_one (ps_expr (pe_bm PySem.F.plainAttrs_list PySem.F.slot_list_extend PySem.F.type_list_extend mt_extend (pv 5) (pa_cons (pv 8) pa_nil)))))
  (pss_one (ps_ret (pv 5)))))), ?_⟩
    refine r_begin (show L2.start _ _ = [some _, none, none, none, none, none, none, none, none, none, none, none] from rfl) ?_
    try dsimp only [cxOf]
    walk_at "rr"
    refine r_t4 hv fun x y z u hx hy hz hu => ?_
    walk_at "rr"
    refine CM (fun r : Str × Wo => some r.2) lv hy ?_ ?_
    · rintro D i x1 b zs H1 eb k hb
      walk_at "rr"
      refine r_t2 hb fun n w hn hw => ?_
      walk_at "rr"
      exact k.mput eb rfl (Same.refl _) hw
    · rintro D H1 hD s1 h1
      rw [List.filterMap_eq_map'] at h1
      have f1 := Fr.of lv s1
      walk_at "rr"
      refine r_catA f1.live (f1.at_ hx) h1 (by rw [List.length_map]; omega) fun p2 H2 hp2 s2 h2 => ?_
      have f2 := f1.trans (Fr.of f1.live s2)
      walk_at "rr"
      refine CM (fun r : Int × Wo => some r.2) f2.live (f2.at_ hu) ?_ ?_
      · rintro D i x1 b zs H1 eb k hb
        walk_at "rr"
        refine r_t2 hb fun n w hn hw => ?_
        walk_at "rr"
        exact k.mput eb rfl (Same.refl _) hw
      · rintro D3 H3 hD3 s3 h3
        rw [List.filterMap_eq_map'] at h3
        have f3 := f2.trans (Fr.of f2.live s3)
        walk_at "rr"
        refine r_catO f3.live ((Fr.of f2.live s3).at_ h2) h3 (by simp only [List.length_append, List.length_map]; omega) fun a H4 ha s4 f4 o4 => ?_
        have s04 := ((s1.trans s2).trans s3).trans s4
        have ha0 := ((s1.trans s2).trans s3).free ha
        have hz4 := (f3.trans f4).at_ hz
        walk_at "rr"
        refine LA (ns := a :: ns) (ms := a :: ns) hz4 (fun i σ H5 => ∃ u6 u7 u8 u9 u10 u11, σ = [some v, some x, some y, some z, some u, some (.ref a), u6, u7, u8, u9, u10, u11] ∧ Same H H5 ∧ Fr (a :: ns) H4 (a :: ns) H5 ∧ Own (a :: ns) H5 a (p.a ++ p.b.map (·.2) ++ p.d.map (·.2) ++ ((p.c.take i).map (·.c)).flatten)) ⟨_, _, _, _, _, _, rfl, s04, .refl f4.live, by simpa using o4⟩ (fun i σ H5 _ ⟨_, _, _, _, _, _, _, _, f, _⟩ => f) ?_ ?_
        · rintro i b x1 σ H5 eb hb ⟨u6, u7, u8, u9, u10, u11, rfl, s5, f5, o5⟩
          walk_at "rr"
          refine r_t3 hb fun n w r hn hw hr => ?_
          walk_at "rr"
          refine o5.tyL ?_
          walk_at "rr"
          refine r_extO f5.live List.mem_cons_self o5 hr ?_ fun H6 f6 b6 o6 => ?_
          · have e : ((p.c.take (i + 1)).map (·.c)).flatten.length ≤ ((p.c).map (·.c)).flatten.length := by
              conv => rhs; rw [← List.take_append_drop (i + 1) p.c]
              rw [List.map_append, List.flatten_append, List.length_append]
              omega
            rw [List.take_add_one, eb] at e
            simp at e
            simp at hl ⊢
            omega
          · walk_at "rr"
            refine ⟨_, _, _, _, _, _, rfl, But.back s5 ha0 b6, f5.trans f6, ?_⟩
            rw [List.take_add_one, eb]
            simpa using o6
        · rintro σ H5 ⟨u6, u7, u8, u9, u10, u11, rfl, s5, f5, o5⟩
          rw [List.take_length] at o5
          walk_at "rr"
          exact q a H5 s5 ha0 (o5.shut (lv.not ha0))
/-! ### things -/
abbrev s_things : Stmt := top 18
theorem sc_things : FnScope ["picture", "b", "worth", "g", "place", "row"] ["picture"] (defScope s_things) := ⟨rfl, rfl, rfl, by decide +kernel, rfl, by decide +kernel, by decide +kernel⟩
def sp_things (_ : PySem.W.Frag) : Sp := fun vs H Q _ => ∃ (ns : List Addr) (v : V) (p : Pic), vs = [v] ∧ Live ns H ∧ At (del ns H) v p ∧ p.d.length ≤ 40000 ∧ p.c.length ≤ 40000 ∧ ∀ r H', Same H H' → H r = none → At (del ns H') (.ref r) (thingsP p) → Q (.ref r) H'
theorem ok_things {fa : Addr} {fd : FuncData} (F : Fun K "things" "things" s_things fa fd) (TX : Tx mg) :
    FnOk P w K mg base CX0 1 fa fd ["picture"] (sp_things K) := by
  refine F.ok sc_things (fun vs H Q E h => ?_) (fun cdv A outer s H vs Q E hr h => ?_)
  · obtain ⟨ns, v, p, rfl, lv, hv, hl, hl2, q⟩ := h
    rfl
  · obtain ⟨ns, v, p, rfl, lv, hv, hl, hl2, q⟩ := h
    have hu := hu_of hr
    have hu64 := hr.units
    have hu65 := hu65_of hr
    refine ⟨_, (pss_one (ps_ret (pe_op op_cat (pe_lc (own := [("b", 1), ("worth", 2)]) (g := gTup K 2 (gCons (gName 1) (gCons (gName 2) gNil))) (tt := tYes) rfl sc_things.nd (pi_list (pe_ix ix_tup (pv 0) pe_int (fun _ _ => rfl))) (blkOk_by (own := [("b", 1), ("worth", 2)]) (N := ["picture", "b", "worth", "g", "place", "row"]) (sc := defScope s_things) (by decide +kernel)) (fun _ _ _ _ _ => (kPG (gTup K _ _) (pg_tup rfl (pgs_cons (pg_name (i := 1) sc_things.nd rfl (Or.inl rfl)) (pgs_cons (pg_name (i := 2) sc_things.nd rfl (Or.inl rfl)) pgs_nil))) rfl)) (fun _ _ _ _ _ => pts_nil) (fun _ _ _ _ _ => (pe_tup (pa_cons pe_str (pa_cons (pv 1) pa_nil))))) (pe_lc (own := [("g", 3), ("place", 4), ("row", 5)]) (g := gTup K 3 (gCons (gName 3) (gCons (gName 4) (gCons (gName 5) gNil)))) (tt := tYes) rfl sc_things.nd (pi_list (pe_ix ix_tup (pv 0) pe_int (fun _ _ => rfl))) (blkOk_by (own := [("g", 3), ("place", 4), ("row", 5)]) (N := ["picture", "b", "worth", "g", "place", "row"]) (sc := defScope s_things) (by decide +kernel)) (fun _ _ _ _ _ => (kPG (gTup K _ _) (pg_tup rfl (pgs_cons (pg_name (i := 3) sc_things.nd rfl (Or.inl rfl)) (pgs_cons (pg_name (i := 4) sc_things.nd rfl (Or.inl rfl)) (pgs_cons (pg_name (i := 5) sc_things.nd rfl (Or.inl rfl)) pgs_nil)))) rfl)) (fun _ _ _ _ _ => pts_nil) (fun _ _ _ _ _ => (pe_tup (pa_cons pe_str (pa_cons (pv 3) pa_nil)))))))), ?_⟩
    refine r_begin (show L2.start _ _ = [some _, none, none, none, none, none] from rfl) ?_
    try dsimp only [cxOf]
    walk_at "rr"
    refine r_x43 hv fun x hx => ?_
    walk_at "rr"
    refine CM (fun r : Int × Wo => some (("box", r.1) : Wo)) lv hx ?_ ?_
    · rintro D i x1 b zs H1 eb k hb
      walk_at "rr"
      refine r_t2 hb fun n w hn hw => ?_
      walk_at "rr"
      refine r_tupA2 (x := .str "box") (ab := (("box", b.1) : Wo)) k.lv (at_str ok_box) hn fun p H2 hp s2 h2 => ?_
      exact k.mput eb rfl s2 h2
    · rintro D H1 hD s1 h1
      walk_at "rr"
      refine r_x42 ((Fr.of lv s1).at_ hv) fun y hy => ?_
      walk_at "rr"
      refine CM (fun r : Going => some (("go", r.a) : Wo)) (lv.same s1) hy ?_ ?_
      · rintro D i x1 b zs H1 eb k hb
        walk_at "rr"
        refine r_t3 hb fun n w u hn hw hu => ?_
        walk_at "rr"
        refine r_tupA2 (x := .str "go") (ab := (("go", b.a) : Wo)) k.lv (at_str ok_go) hn fun p H2 hp s2 h2 => ?_
        exact k.mput eb rfl s2 h2
      · rintro D2 H2 hD2 s2 h2
        walk_at "rr"
        rw [List.filterMap_eq_map'] at h1 h2
        refine r_catA (lv.same (s1.trans s2)) ((Fr.of (lv.same s1) s2).at_ h1) h2 (by rw [List.length_map, List.length_map]; omega) fun r H3 hr s3 h3 => ?_
        exact q r H3 ((s1.trans s2).trans s3) ((s1.trans s2).free hr) h3
/-! ### is_picture -/
abbrev s_is_picture : Stmt := top 17
theorem sc_is_picture : FnScope ["thing", "held", "one", "there"] ["thing"] (defScope s_is_picture) := ⟨rfl, rfl, rfl, by decide +kernel, rfl, by decide +kernel, by decide +kernel⟩
def sp_is_picture (_ : PySem.W.Frag) : Sp := fun vs H Q _ => ∃ (ns : List Addr) (v : V) (p : Pic), vs = [v] ∧ Live ns H ∧ At (del ns H) v p ∧ (standingP p).length ≤ 90000 ∧ p.d.length ≤ 40000 ∧ p.c.length ≤ 40000 ∧ (∀ r ∈ p.b, r.1.length ≤ 1000) ∧ ∀ H', Same H H' → Q (.bl (isPic p)) H'
theorem ok_is_picture {fa : Addr} {fd : FuncData} (F : Fun K "is_picture" "is_picture" s_is_picture fa fd) (TX : Tx mg)
    (C_are_boxes : Cal P w K mg base CX0 3 "are_boxes" ["thing"] (sp_are_boxes K))
    (C_are_goings : Cal P w K mg base CX0 4 "are_goings" ["thing"] (sp_are_goings K))
    (C_are_pegs : Cal P w K mg base CX0 3 "are_pegs" ["thing"] (sp_are_pegs K))
    (C_is_pile : Cal P w K mg base CX0 3 "is_pile" ["thing"] (sp_is_pile K))
    (C_is_row : Cal P w K mg base CX0 1 "is_row" ["thing", "many"] (sp_is_row K))
    (C_standing : Cal P w K mg base CX0 1 "standing" ["picture"] (sp_standing K))
    (C_things : Cal P w K mg base CX0 1 "things" ["picture"] (sp_things K))
    (C_things_of : Cal P w K mg base CX0 2 "things_of" ["worths"] (sp_things_of K)) :
    FnOk P w K mg base CX0 5 fa fd ["thing"] (sp_is_picture K) := by
  refine F.ok sc_is_picture (fun vs H Q E h => ?_) (fun cdv A outer s H vs Q E hr h => ?_)
  · obtain ⟨ns, v, p, rfl, lv, hv, hs, hld, hlc, hb, q⟩ := h
    rfl
  · obtain ⟨ns, v, p, rfl, lv, hv, hs, hld, hlc, hb, q⟩ := h
    have hu := hu_of hr
    have hu64 := hr.units
    have hu65 := hu65_of hr
    obtain ⟨t, x, y, z, u, rfl, et, ha, hpg, hgo, hbx⟩ := id hv
    unfold isPic at q
    have hs' := hs
    unfold standingP at hs'
    rw [List.length_append, List.length_append, List.length_append, List.length_map, List.length_map] at hs'
    have et0 := (of_del et).1
    have hgl : ∀ r ∈ p.c, r.c.length ≤ 90000 := fun r m => by
      have := len_flat_mem (fun g : Going => g.c) m
      omega
    refine ⟨_, (pss_cons (ps_if (PW.pt (pw_or (pt_not (pt_val (pe_cal C_is_row (hr.mono (by decide)) (by rfl) pass0 (pa_cons (pv 0) (pa_cons pe_int pa_nil))))) (pw_or (pt_not (pt_val (pe_cal C_is_pile (hr.mono (by decide)) (by rfl) pass0 (pa_cons (pe_ix ix_tup (pv 0) pe_int (fun _ _ => rfl)) pa_nil)))) (pw_or1 (pt_not (pt_val (pe_cal C_are_pegs (hr.mono (by decide)) (by rfl) pass0 (pa_cons (pe_ix ix_tup (pv 0) pe_int (fun _ _ => rfl)) pa_nil)))))))) (pss_one (ps_ret pe_bl)) pss_nil)
  (pss_cons (ps_if (PW.pt (pw_or (pt_not (pt_val (pe_cal C_are_goings (hr.mono (by decide)) (by rfl) pass0 (pa_cons (pe_ix ix_tup (pv 0) pe_int (fun _ _ => rfl)) pa_nil)))) (pw_or1 (pt_not (pt_val (pe_cal C_are_boxes (hr.mono (by decide)) (by rfl) pass0 (pa_cons (pe_ix ix_tup (pv 0) pe_int (fun _ _ => rfl)) pa_nil))))))) (pss_one (ps_ret pe_bl)) pss_nil)
  (pss_cons (ps_set (i := 1) sc_is_picture.nd rfl (Or.inr rfl) pe_dnewT)
  (pss_cons (ps_for PassesOwn.never rfl (pi_list (pe_cal C_things_of (hr.mono (by decide)) (by rfl) pass0 (pa_cons (pe_cal C_standing (hr.mono (by decide)) (by rfl) pass0 (pa_cons (pv 0) pa_nil)) pa_nil))) (pg_name (i := 2) sc_is_picture.nd rfl (Or.inl rfl))
  (pss_one (ps_dput hu (pv 1) (pv 2) pe_bl rfl)))
  (pss_cons (ps_set (i := 3) sc_is_picture.nd rfl (Or.inl rfl) (pe_cal C_things (hr.mono (by decide)) (by rfl) pass0 (pa_cons (pv 0) pa_nil)))
  (pss_one (ps_ret (pe_and (pe_cmpR op_eq (pe_callB (CallR.or call_lenD call_len_dT) (by rfl) TX.n_len (by decide +kernel) (pa_cons (pv 1) pa_nil)) (pe_callB call_len (by rfl) TX.n_len (by decide +kernel) (pa_cons (pv 3) pa_nil)) (nomark _)) (pe_one (pe_callB (cr_all rfl) (by rfl) TX.n_all (by decide +kernel) (pa_cons (pe_lc (own := [("one", 2)]) (g := gName 2) (tt := tYes) rfl sc_is_picture.nd (pi_list (pv 3)) (blkOk_by (own := [("one", 2)]) (N := ["thing", "held", "one", "there"]) (sc := defScope s_is_picture) (by decide +kernel)) (fun _ _ _ _ _ => (pg_name (i := 2) sc_is_picture.nd rfl (Or.inl rfl))) (fun _ _ _ _ _ => pts_nil) (fun _ _ _ _ _ => (pe_cmp (pc_din hu (pv 2) (pv 1))))) pa_nil))))))))))), ?_⟩
    refine r_begin (show L2.start _ _ = [some _, none, none, none] from rfl) ?_
    try dsimp only [cxOf]
    walk_at "rr"
    refine ⟨_, t, _, 4, rfl, rfl, et0, ?_⟩
    walk_at "rr"
    refine r_itF rfl ?_
    walk_at "rr"
    refine ⟨ns, _, _, rfl, lv, ha, by omega, fun H1 s1 => ?_⟩
    walk_at "rr"
    cases h1 : isPileW p.a with
    | false =>
      walk_at "rr"
      rw [h1, Bool.false_and] at q
      exact q H1 s1
    | true =>
      rw [h1, Bool.true_and] at q
      have et1 := s1 _ _ et0
      have f1 := Fr.of lv s1
      walk_at "rr"
      refine ⟨ns, _, _, rfl, f1.live, f1.at_ hpg, by omega, hb, fun H2 s2 => ?_⟩
      walk_at "rr"
      cases h2 : arePegs p.b with
      | false =>
        walk_at "rr"
        rw [h2, Bool.false_and] at q
        exact q H2 (s1.trans s2)
      | true =>
        rw [h2, Bool.true_and] at q
        have et2 := s2 _ _ et1
        have f2 := f1.trans (Fr.of f1.live s2)
        walk_at "rr"
        refine ⟨ns, _, _, rfl, f2.live, f2.at_ hgo, by omega, hgl, fun H3 s3 => ?_⟩
        walk_at "rr"
        cases h3 : areGoings p.c with
        | false =>
          walk_at "rr"
          rw [h3, Bool.false_and] at q
          exact q H3 ((s1.trans s2).trans s3)
        | true =>
          rw [h3, Bool.true_and] at q
          have et3 := s3 _ _ et2
          have f3 := f2.trans (Fr.of f2.live s3)
          walk_at "rr"
          refine ⟨ns, _, _, rfl, f3.live, f3.at_ hbx, by omega, fun H4 s4 => ?_⟩
          walk_at "rr"
          cases h4 : areBoxes p.d with
          | false =>
            walk_at "rr"
            rw [h4, Bool.false_and] at q
            exact q H4 (((s1.trans s2).trans s3).trans s4)
          | true =>
            rw [h4, Bool.true_and] at q
            have f4 := f3.trans (Fr.of f3.live s4)
            have s04 := ((s1.trans s2).trans s3).trans s4
            walk_at "rr"
            intro d hd
            have s5 : Same H (upd H4 d (.dT [])) := s04.trans (same_new hd)
            have f5 : Fr ns H4 (d :: ns) (upd H4 d (.dT [])) := (newD (κ := Wo) (α := Bool) f4.live hd).1
            have d5 : Dc (κ := Wo) (α := Bool) (d :: ns) (upd H4 d (.dT [])) d [] := (newD f4.live hd).2
            have hd0 := s04.free hd
            generalize upd H4 d (.dT []) = H5 at s5 f5 d5 ⊢
            walk_at "rr"
            refine ⟨d :: ns, _, p, rfl, f5.live, (f4.trans f5).at_ hv, hs, by omega, fun r H6 s6 hr h6 => ?_⟩
            obtain ⟨a6, xs6, e6, ea6, rx6⟩ := id h6
            cases e6
            have f6 := f5.live.same s6
            walk_at "rr"
            refine ⟨r, xs6, _, rfl, .inl (.inl (of_del ea6).1), ats_wos.mp (rx6.same del_sub), by rw [rx6.len]; omega, fun T ys H7 hT s7 eT wT => ?_⟩
            have l7 := f6.same s7
            have h7 : At (del (d :: ns) H7) (.ref T) (thingsOf (standingP p)) := at_of_wos l7 (f6.not hT) eT wT
            have d7 := d5.fr ((Fr.of f5.live s6).trans (.of f6 s7)) (fun o e => s7 _ _ (s6 _ _ e))
            have tlen := things_len (standingP p)
            have nd := things_nodup (standingP p)
            generalize thingsOf (standingP p) = ts at h7 tlen nd q
            walk_at "rr"
            refine LA (ms := d :: ns) h7 (fun i σ H8 => ∃ u3, σ = [some (.ref t), some (.ref d), u3, none] ∧ Same H H8 ∧ Fr (d :: ns) H7 (d :: ns) H8 ∧ ∃ l : List (Wo × Bool), Dc (d :: ns) H8 d l ∧ l.map (·.1) = ts.take i) ⟨_, rfl, (s5.trans s6).trans s7, .refl l7, [], d7, rfl⟩ (fun i σ H8 _ ⟨_, _, _, f, _⟩ => f) ?_ ?_
            · rintro i b x1 σ H8 eb hb1 ⟨u3, rfl, s8, f8, l, d8, el⟩
              have ll : l.length ≤ ts.length := by
                have := congrArg List.length el
                rw [List.length_map, List.length_take] at this
                omega
              walk_at "rr"
              refine r_dputA (v := .bl true) (a := true) f8.live List.mem_cons_self d8 (at_sub hb1) rfl (by omega) fun H9 f9 b9 d9 => ?_
              walk_at "rr"
              refine ⟨_, rfl, But.back s8 hd0 b9, f8.trans f9, _, d9, ?_⟩
              rw [putA_keys, el, if_neg (nodup_take nd eb), List.take_add_one, eb]
              rfl
            · rintro σ H8 ⟨u3, rfl, s8, f8, l, d8, el⟩
              rw [List.take_length] at el
              have ll : l.length = ts.length := by rw [← el, List.length_map]
              walk_at "rr"
              refine ⟨d :: ns, _, p, rfl, f8.live, (((f4.trans f5).trans ((Fr.of f5.live s6).trans (.of f6 s7))).trans f8).at_ hv, by omega, by omega, fun r2 H9 s9 hr2 h9 => ?_⟩
              have d9 := d8.fr (.of f8.live s9) (fun o e => s9 _ _ e)
              have s09 := s8.trans s9
              obtain ⟨kvs, ed, rd⟩ := id d9
              walk_at "rr"
              refine .inr ⟨d, kvs, rfl, ed, ?_⟩
              walk_at "rr"
              refine r_lenA h9 ?_
              walk_at "rr"
              have e1 : decide (((kvs.length : Nat) : Int) = ((thingsP p).length : Nat)) = decide (ts.length = (thingsP p).length) := decide_eq_decide.mpr (by rw [rd.len, ll]; omega)
              rw [e1]
              cases hc : decide (ts.length = (thingsP p).length) with
              | false =>
                walk_at "rr"
                rw [hc, Bool.false_and] at q
                exact q H9 s09
              | true =>
                rw [hc, Bool.true_and] at q
                walk_at "rr"
                refine CM (fun w : Wo => some (decide (w ∈ ts))) (f8.live.same s9) h9 ?_ ?_
                · rintro D i x1 b zs H10 eb k hb1
                  walk_at "rr"
                  have dr : Dcr (d :: ns) H10 d l := (d9.fr (.of (f8.live.same s9) k.ex) (fun o e => k.ex _ _ e)).rd
                  refine r_dinA dr (at_sub hb1) ?_
                  simp only [el]
                  exact k.mput eb rfl (Same.refl _) at_bl (by unfold thingsP; rw [List.length_append, List.length_map, List.length_map]; omega)
                · rintro D H10 hD s10 h10
                  walk_at "rr"
                  refine r_allA h10 ?_
                  rw [List.filterMap_eq_map', List.all_map]
                  exact q H10 (s09.trans s10)
/-! ### roots -/
abbrev s_roots : Stmt := top 19
theorem sc_roots : FnScope ["picture", "name", "worth"] ["picture"] (defScope s_roots) := ⟨rfl, rfl, rfl, by decide +kernel, rfl, by decide +kernel, by decide +kernel⟩
def sp_roots (_ : PySem.W.Frag) : Sp := fun vs H Q _ => ∃ (ns : List Addr) (v : V) (p : Pic), vs = [v] ∧ Live ns H ∧ At (del ns H) v p ∧ (standingP p).length ≤ 40000 ∧ ∀ (r : Addr) H', Same H H' → H r = none → At (del ns H') (.ref r) (rootsP p) → Q (.ref r) H'
theorem ok_roots {fa : Addr} {fd : FuncData} (F : Fun K "roots" "roots" s_roots fa fd) (TX : Tx mg)
    (C_things_of : Cal P w K mg base CX0 2 "things_of" ["worths"] (sp_things_of K)) :
    FnOk P w K mg base CX0 3 fa fd ["picture"] (sp_roots K) := by
  refine F.ok sc_roots (fun vs H Q E h => ?_) (fun cdv A outer s H vs Q E hr h => ?_)
  · obtain ⟨ns, v, p, rfl, lv, hv, hl, q⟩ := h
    rfl
  · obtain ⟨ns, v, p, rfl, lv, hv, hl, q⟩ := h
    have hu := hu_of hr
    have hu64 := hr.units
    have hu65 := hu65_of hr
    unfold standingP at hl
    rw [List.length_append, List.length_append, List.length_append, List.length_map, List.length_map] at hl
    refine ⟨_, (pss_one (ps_ret (pe_cal C_things_of (hr.mono (by decide)) (by rfl) pass0 (pa_cons (pe_op op_cat (pe_ix ix_tup (pv 0) pe_int (fun _ _ => rfl)) (pe_lc (own := [("name", 1), ("worth", 2)]) (g := gTup K 2 (gCons (gName 1) (gCons (gName 2) gNil))) (tt := tYes) rfl sc_roots.nd (pi_list (pe_ix ix_tup (pv 0) pe_int (fun _ _ => rfl))) (blkOk_by (own := [("name", 1), ("worth", 2)]) (N := ["picture", "name", "worth"]) (sc := defScope s_roots) (by decide +kernel)) (fun _ _ _ _ _ => (kPG (gTup K _ _) (pg_tup rfl (pgs_cons (pg_name (i := 1) sc_roots.nd rfl (Or.inl rfl)) (pgs_cons (pg_name (i := 2) sc_roots.nd rfl (Or.inl rfl)) pgs_nil))) rfl)) (fun _ _ _ _ _ => pts_nil) (fun _ _ _ _ _ => (pv 2)))) pa_nil)))), ?_⟩
    refine r_begin (show L2.start _ _ = [some _, none, none] from rfl) ?_
    try dsimp only [cxOf]
    walk_at "rr"
    refine r_x40 hv fun x hx => ?_
    walk_at "rr"
    refine r_x41 hv fun y hy => ?_
    walk_at "rr"
    refine CM (fun r : Str × Wo => some r.2) lv hy ?_ ?_
    · rintro D i x1 b zs H1 eb k hb
      walk_at "rr"
      refine r_t2 hb fun n w hn hw => ?_
      walk_at "rr"
      exact k.mput eb rfl (Same.refl _) hw
    · rintro D H1 hD s1 h1
      rw [List.filterMap_eq_map'] at h1
      have f1 := Fr.of lv s1
      walk_at "rr"
      refine r_catA f1.live (f1.at_ hx) h1 (by rw [List.length_map]; omega) fun p2 H2 hp2 s2 h2 => ?_
      have s12 := s1.trans s2
      walk_at "rr"
      refine tho (f1.live.same s2) h2 (by rw [List.length_append, List.length_map]; omega) fun r H3 hr s3 h3 => ?_
      walk_at "rr"
      exact q r H3 (s12.trans s3) (s12.free hr) h3
/-! ### all_held -/
abbrev s_all_held : Stmt := top 20
theorem sc_all_held : FnScope ["picture", "held", "b", "worth", "g", "place", "row"] ["picture"] (defScope s_all_held) := ⟨rfl, rfl, rfl, by decide +kernel, rfl, by decide +kernel, by decide +kernel⟩
def sp_all_held (_ : PySem.W.Frag) : Sp := fun vs H Q _ => ∃ (ns : List Addr) (v : V) (p : Pic), vs = [v] ∧ Live ns H ∧ At (del ns H) v p ∧ (standingP p).length ≤ 40000 ∧ p.c.length ≤ 40000 ∧ (thingsP p).Nodup ∧ ∀ (d : Addr) H', Same H H' → H d = none → Live (d :: ns) H' → Dc (d :: ns) H' d (heldP p) → Q (.ref d) H'
theorem ok_all_held {fa : Addr} {fd : FuncData} (F : Fun K "all_held" "all_held" s_all_held fa fd) (TX : Tx mg)
    (C_things_of : Cal P w K mg base CX0 2 "things_of" ["worths"] (sp_things_of K)) :
    FnOk P w K mg base CX0 3 fa fd ["picture"] (sp_all_held K) := by
  refine F.ok sc_all_held (fun vs H Q E h => ?_) (fun cdv A outer s H vs Q E hr h => ?_)
  · obtain ⟨ns, v, p, rfl, lv, hv, hl, hlc, nd, q⟩ := h
    rfl
  · obtain ⟨ns, v, p, rfl, lv, hv, hl, hlc, nd, q⟩ := h
    have hu := hu_of hr
    have hu64 := hr.units
    have hu65 := hu65_of hr
    unfold standingP at hl
    rw [List.length_append, List.length_append, List.length_append, List.length_map, List.length_map] at hl
    have nd2 := nd
    unfold thingsP at nd2
    have hkey := nd2
    have nbg : ("box" : Str) ≠ "go" := by decide +kernel
    refine ⟨_, (pss_cons (ps_set (i := 1) sc_all_held.nd rfl (Or.inl rfl) pe_dnewT)
  (pss_cons (ps_for PassesOwn.never rfl (pi_list (pe_ix ix_tup (pv 0) pe_int (fun _ _ => rfl))) (pg_tup rfl (pgs_cons (pg_name (i := 2) sc_all_held.nd rfl (Or.inl rfl)) (pgs_cons (pg_name (i := 3) sc_all_held.nd rfl (Or.inl rfl)) pgs_nil)))
  (pss_one (ps_dput hu (pv 1) (pe_tup (pa_cons pe_str (pa_cons (pv 2) pa_nil))) (pe_cal C_things_of (hr.mono (by decide)) (by rfl) pass0 (pa_cons (pe_lst (pa_cons (pv 3) pa_nil)) pa_nil)) rfl)))
  (pss_cons (ps_for PassesOwn.never rfl (pi_list (pe_ix ix_tup (pv 0) pe_int (fun _ _ => rfl))) (pg_tup rfl (pgs_cons (pg_name (i := 4) sc_all_held.nd rfl (Or.inl rfl)) (pgs_cons (pg_name (i := 5) sc_all_held.nd rfl (Or.inl rfl)) (pgs_cons (pg_name (i := 6) sc_all_held.nd rfl (Or.inl rfl)) pgs_nil))))
  (pss_one (ps_dput hu (pv 1) (pe_tup (pa_cons pe_str (pa_cons (pv 4) pa_nil))) (pe_cal C_things_of (hr.mono (by decide)) (by rfl) pass0 (pa_cons (pv 6) pa_nil)) rfl)))
  (pss_one (ps_ret (pv 1)))))), ?_⟩
    refine r_begin (show L2.start _ _ = [some _, none, none, none, none, none, none] from rfl) ?_
    try dsimp only [cxOf]
    walk_at "rr"
    intro d hd
    have s1 : Same H (upd H d (.dT [])) := same_new hd
    have f1 : Fr ns H (d :: ns) (upd H d (.dT [])) := (newD (κ := Wo) (α := List Wo) lv hd).1
    have d1 : Dc (κ := Wo) (α := List Wo) (d :: ns) (upd H d (.dT [])) d [] := (newD lv hd).2
    generalize upd H d (.dT []) = H1 at s1 f1 d1 ⊢
    walk_at "rr"
    refine r_x43 (f1.at_ hv) fun x hx => ?_
    walk_at "rr"
    refine LA (ms := d :: ns) hx (fun i σ H2 => ∃ u2 u3 u4 u5 u6, σ = [some v, some (.ref d), u2, u3, u4, u5, u6] ∧ Same H H2 ∧ Fr (d :: ns) H1 (d :: ns) H2 ∧ Dc (d :: ns) H2 d ((p.d.take i).map fun r => ((("box", r.1) : Wo), thingsOf [r.2]))) ⟨_, _, _, _, _, rfl, s1, .refl f1.live, d1⟩ (fun i σ H2 _ ⟨_, _, _, _, _, _, _, g, _⟩ => g) ?_ ?_
    · rintro i b x1 σ H2 eb hb ⟨u2, u3, u4, u5, u6, rfl, s2, f2, d2⟩
      have hi := (List.getElem?_eq_some_iff.mp eb).1
      walk_at "rr"
      refine r_t2 hb fun n w hn hw => ?_
      walk_at "rr"
      refine r_lstA (as := [b.2]) f2.live (.one hw) (by show 1 ≤ 100000; decide) fun l3 H3 hl3 s3 h3 => ?_
      walk_at "rr"
      refine tho (f2.live.same s3) h3 (by show 1 ≤ _; decide) fun r H4 hr s4 h4 => ?_
      have s24 := s3.trans s4
      have f4 := Fr.of f2.live s24
      walk_at "rr"
      refine r_tupA2 (x := .str "box") (ab := (("box", b.1) : Wo)) f4.live (at_str ok_box) (f4.at_ hn) fun t5 H5 ht5 s5 h5 => ?_
      have s25 := s24.trans s5
      have f5 := Fr.of f2.live s25
      walk_at "rr"
      refine r_dputA f5.live List.mem_cons_self (d2.fr f5 fun o e => s25 _ _ e) (at_sub h5) ((Fr.of f4.live s5).at_ h4) (by rw [List.length_map, List.length_take]; omega) fun H6 f6 b6 d6 => ?_
      walk_at "rr"
      refine ⟨_, _, _, _, _, rfl, But.back (s2.trans s25) hd b6, (f2.trans f5).trans f6, ?_⟩
      rw [List.take_add_one, eb, List.map_append]
      rw [putA_new] at d6
      · exact d6
      · rw [List.map_map]
        intro m
        obtain ⟨r2, m2, e2⟩ := List.mem_map.mp m
        have nb := (List.nodup_append.mp hkey).1
        have e3 : (p.d.map fun r => (("box", r.1) : Wo))[i]? = some (("box", b.1) : Wo) := by rw [List.getElem?_map, eb]; rfl
        refine nodup_take nb e3 ?_
        rw [← List.map_take]
        exact List.mem_map.mpr ⟨r2, m2, e2⟩
    · rintro σ H2 ⟨u2, u3, u4, u5, u6, rfl, s2, f2, d2⟩
      rw [List.take_length] at d2
      walk_at "rr"
      refine r_x42 ((f1.trans f2).at_ hv) fun y hy => ?_
      walk_at "rr"
      refine LA (ms := d :: ns) hy (fun i σ H3 => ∃ u2 u3 u4 u5 u6, σ = [some v, some (.ref d), u2, u3, u4, u5, u6] ∧ Same H H3 ∧ Fr (d :: ns) H2 (d :: ns) H3 ∧ Dc (d :: ns) H3 d (p.d.map (fun r => ((("box", r.1) : Wo), thingsOf [r.2])) ++ (p.c.take i).map fun r => ((("go", r.a) : Wo), thingsOf r.c))) ⟨_, _, _, _, _, rfl, s2, .refl f2.live, by simpa using d2⟩ (fun i σ H2 _ ⟨_, _, _, _, _, _, _, g, _⟩ => g) ?_ ?_
      · rintro i b x1 σ H3 eb hb ⟨u2, u3, u4, u5, u6, rfl, s3, f3, d3⟩
        have hi := (List.getElem?_eq_some_iff.mp eb).1
        have lb := len_flat_mem (fun g : Going => g.c) (List.mem_of_getElem? eb)
        walk_at "rr"
        refine r_t3 hb fun n w u hn hw hu => ?_
        walk_at "rr"
        refine tho f3.live hu (by omega) fun r H4 hr s4 h4 => ?_
        have f4 := Fr.of f3.live s4
        walk_at "rr"
        refine r_tupA2 (x := .str "go") (ab := (("go", b.a) : Wo)) f4.live (at_str ok_go) (f4.at_ hn) fun t5 H5 ht5 s5 h5 => ?_
        have s35 := s4.trans s5
        have f5 := Fr.of f3.live s35
        walk_at "rr"
        refine r_dputA f5.live List.mem_cons_self (d3.fr f5 fun o e => s35 _ _ e) (at_sub h5) ((Fr.of f4.live s5).at_ h4) (by rw [List.length_append, List.length_map, List.length_map, List.length_take]; omega) fun H6 f6 b6 d6 => ?_
        walk_at "rr"
        refine ⟨_, _, _, _, _, rfl, But.back (s3.trans s35) hd b6, (f3.trans f5).trans f6, ?_⟩
        rw [List.take_add_one, eb, List.map_append]
        rw [putA_new, List.append_assoc] at d6
        · exact d6
        · rw [List.map_append, List.map_map, List.map_map]
          intro m
          rcases List.mem_append.mp m with m | m
          · obtain ⟨r2, m2, e2⟩ := List.mem_map.mp m
            exact nbg (Prod.mk.inj e2).1
          · obtain ⟨r2, m2, e2⟩ := List.mem_map.mp m
            have nb := (List.nodup_append.mp hkey).2.1
            have e3 : (p.c.map fun r => (("go", r.a) : Wo))[i]? = some (("go", b.a) : Wo) := by rw [List.getElem?_map, eb]; rfl
            refine nodup_take nb e3 ?_
            rw [← List.map_take]
            exact List.mem_map.mpr ⟨r2, m2, e2⟩
      · rintro σ H3 ⟨u2, u3, u4, u5, u6, rfl, s3, f3, d3⟩
        rw [List.take_length] at d3
        walk_at "rr"
        exact q d H3 s3 hd f3.live d3
/-! ### reached -/
abbrev s_reached : Stmt := top 22
theorem sc_reached : FnScope ["picture", "held", "found", "waiting", "one"] ["picture"] (defScope s_reached) := ⟨rfl, rfl, rfl, by decide +kernel, rfl, by decide +kernel, by decide +kernel⟩
def sp_reached (_ : PySem.W.Frag) : Sp := fun vs H Q _ => ∃ (ns : List Addr) (v : V) (p : Pic), vs = [v] ∧ Live ns H ∧ At (del ns H) v p ∧ isPic p = true ∧ (standingP p).length ≤ 40000 ∧ p.c.length ≤ 130 ∧ p.d.length ≤ 130 ∧ ∀ (r : Addr) H', Same H H' → H r = none → At (del ns H') (.ref r) (comeP p) → Q (.ref r) H'
theorem ok_reached {fa : Addr} {fd : FuncData} (F : Fun K "reached" "reached" s_reached fa fd) (TX : Tx mg)
    (C_all_held : Cal P w K mg base CX0 3 "all_held" ["picture"] (sp_all_held K))
    (C_roots : Cal P w K mg base CX0 3 "roots" ["picture"] (sp_roots K))
    (C_things : Cal P w K mg base CX0 1 "things" ["picture"] (sp_things K)) :
    FnOk P w K mg base CX0 4 fa fd ["picture"] (sp_reached K) := by
  refine F.ok sc_reached (fun vs H Q E h => ?_) (fun cdv A outer s H vs Q E hr h => ?_)
  · obtain ⟨ns, v, p, rfl, lv, hv, ok, hl, hlc, hld, q⟩ := h
    rfl
  · obtain ⟨ns, v, p, rfl, lv, hv, ok, hl, hlc, hld, q⟩ := h
    have hu := hu_of hr
    have hu64 := hr.units
    have hu65 := hu65_of hr
    have lth : (thingsP p).length ≤ 260 := by
      unfold thingsP
      rw [List.length_append, List.length_map, List.length_map]
      omega
    refine ⟨_, (pss_cons (ps_set (i := 1) sc_reached.nd rfl (Or.inl rfl) (pe_cal C_all_held (hr.mono (by decide)) (by rfl) pass0 (pa_cons (pv 0) pa_nil)))
  (pss_cons (ps_set (i := 2) sc_reached.nd rfl (Or.inr rfl) pe_dnewT)
  (pss_cons (ps_set (i := 3) sc_reached.nd rfl (Or.inl rfl) (pe_cal C_roots (hr.mono (by decide)) (by rfl) pass0 (pa_cons (pv 0) pa_nil)))
  (pss_cons (ps_while PassesOwn.never (pt_cmpR (op_neD hu64) (pv 3) (pe_lst pa_nil) (nomark _)) (pss_cons (ps_set (i := 4) sc_reached.nd rfl (Or.inl rfl) (pe_bm0 PySem.F.plainAttrs_list PySem.F.slot_list_pop PySem.F.type_list_pop mt_pop (pv 3)))
  (pss_one (ps_if (pt_cmp (pc_dnotin hu (pv 4) (pv 2))) (pss_cons (ps_dput hu (pv 2) (pv 4) pe_bl rfl)
  (pss_one (ps_expr (pe_bm PySem.F.plainAttrs_list PySem.F.slot_list_extend PySem.F.type_list_extend mt_extend (pv 3) (pa_cons (pe_dget hu (pv 1) (pv 4) (fun _ _ => rfl)) pa_nil))))) pss_nil))))
  (pss_one (ps_ret (pe_lc (own := [("one", 4)]) (g := gName 4) rfl sc_reached.nd (pi_list (pe_cal C_things (hr.mono (by decide)) (by rfl) pass0 (pa_cons (pv 0) pa_nil))) (blkOk_by (own := [("one", 4)]) (N := ["picture", "held", "found", "waiting", "one"]) (sc := defScope s_reached) (by decide +kernel)) (fun _ _ _ _ _ => (pg_name (i := 4) sc_reached.nd rfl (Or.inl rfl))) (fun _ _ _ _ _ => pts_one (pt_cmp (pc_din hu (pv 4) (pv 2)))) (fun _ _ _ _ _ => (pv 4))))))))), ?_⟩
    refine r_begin (show L2.start _ _ = [some _, none, none, none, none] from rfl) ?_
    try dsimp only [cxOf]
    walk_at "rr"
    refine ⟨ns, v, p, rfl, lv, hv, hl, by omega, things_nd ok, fun d H1 s1 hd lv1 d1 => ?_⟩
    have f1 : Fr ns H (d :: ns) H1 := ⟨(del_more hd).trans (del_same s1), lv1⟩
    walk_at "rr"
    intro f hf
    have s2 : Same H1 (upd H1 f (.dT [])) := same_new hf
    have f2 : Fr (d :: ns) H1 (f :: d :: ns) (upd H1 f (.dT [])) := (newD (κ := Wo) (α := Bool) lv1 hf).1
    have dF : Dc (κ := Wo) (α := Bool) (f :: d :: ns) (upd H1 f (.dT [])) f [] := (newD lv1 hf).2
    generalize upd H1 f (.dT []) = H2 at s2 f2 dF ⊢
    have d2 := d1.fr f2 fun o e => s2 _ _ e
    have nfd : d ≠ f := fun e => by
      obtain ⟨kvs, e1, _⟩ := d1
      rw [e, hf] at e1
      cases e1
    have s02 := s1.trans s2
    have hf0 : H f = none := s1.free hf
    walk_at "rr"
    refine ⟨f :: d :: ns, v, p, rfl, f2.live, (f1.trans f2).at_ hv, by omega, fun wr H3 s3 hwr h3 => ?_⟩
    have f3 : Fr (f :: d :: ns) H2 (wr :: f :: d :: ns) H3 := .more f2.live hwr s3 (at_lv h3)
    have o3 := Own.of_at f3.live h3
    have dF3 := dF.fr f3 fun o e => s3 _ _ e
    have d3 := d2.fr f3 fun o e => s3 _ _ e
    have hw0 : H wr = none := s02.free hwr
    have nwf : f ≠ wr ∧ d ≠ wr := by
      constructor
      · intro e
        obtain ⟨kvs, e1, _⟩ := dF
        rw [e, hwr] at e1
        cases e1
      · intro e
        obtain ⟨kvs, e1, _⟩ := d2
        rw [e, hwr] at e1
        cases e1
    have hv3 := ((f1.trans f2).trans f3).at_ hv
    have lro := nodup_le (things_nodup (p.a ++ p.b.map (·.2))) fun w mw => roots_mem ok w mw
    have subN : ∀ x ∈ ns, x ∈ wr :: f :: d :: ns := fun x mx => List.mem_cons_of_mem _ (List.mem_cons_of_mem _ (List.mem_cons_of_mem _ mx))
    walk_at "rr"
    refine r_while (fun m σ H4 => ∃ (wt : List Wo) (l : List (Wo × Bool)) (u4 : Option V), σ = [some v, some (.ref d), some (.ref f), some (.ref wr), u4] ∧ Same H H4 ∧ Fr (wr :: f :: d :: ns) H3 (wr :: f :: d :: ns) H4 ∧ Dc (wr :: f :: d :: ns) H4 f l ∧ Dc (wr :: f :: d :: ns) H4 d (heldP p) ∧ Own (wr :: f :: d :: ns) H4 wr wt ∧
        wt.length ≤ 260 + 260 * l.length ∧ (∀ w ∈ wt, Reach p w) ∧ (l.map (·.1)).Nodup ∧ (∀ w ∈ l.map (·.1), Reach p w) ∧ (∀ a ∈ l.map (·.1), ∀ hs, getA (heldP p) a = some hs → ∀ w ∈ hs, w ∈ l.map (·.1) ∨ w ∈ wt) ∧ (∀ w ∈ rootsP p, w ∈ l.map (·.1) ∨ w ∈ wt) ∧ m = (301 - l.length) * 1000 + wt.length)
      (301 * 1000 + (rootsP p).length) ⟨rootsP p, [], none, rfl, s02.trans s3, .refl f3.live, dF3, d3, o3, by show (rootsP p).length ≤ _; have : (rootsP p).length ≤ (thingsP p).length := lro; omega, fun w m => .root m, .nil, fun w m => (by cases m), fun a m => (by cases m), fun w m => .inr m, rfl⟩ ?_
    rintro m σ H4 ⟨wt, l, u4, rfl, s4, f4, dF4, d4, o4, lwt, kw, ndl, kl, cl, rl, em⟩
    have lll : l.length ≤ 260 := by
      have := nodup_le ndl fun w mw => (kl w mw).thing ok
      rw [List.length_map] at this
      omega
    walk_at "rr"
    refine r_lstA (as := ([] : List Wo)) f4.live .nil (by decide) fun e5 H5 he5 s5 h5 => ?_
    have f5 := Fr.of f4.live s5
    have dF5 := dF4.fr f5 fun o e => s5 _ _ e
    have d5 := d4.fr f5 fun o e => s5 _ _ e
    have o5 := o4.fr f5 fun o e => s5 _ _ e
    walk_at "rr"
    refine r_neA o5.at_ (at_sub h5) ?_
    walk_at "rr"
    refine r_nd (fun hn0 => ?_) (fun hn0 => ?_)
    · obtain ⟨t, w, ewt⟩ : ∃ t w, wt = t ++ [w] := ⟨wt.dropLast, wt.getLast hn0, (List.dropLast_concat_getLast hn0).symm⟩
      subst ewt
      have rw1 := kw w (List.mem_append_right _ (List.mem_singleton.mpr rfl))
      rw [List.length_append, List.length_singleton] at lwt
      rw [List.length_append, List.length_singleton] at em
      walk_at "rr"
      refine o5.tyL ?_
      walk_at "rr"
      refine r_popO f5.live List.mem_cons_self o5 fun y H6 f6 b6 hy o6 => ?_
      have s6 : Same H H6 := But.back (s4.trans s5) hw0 b6
      have dF6 := dF5.fr f6 fun o e => b6 _ _ e nwf.1
      have d6 := d5.fr f6 fun o e => b6 _ _ e nwf.2
      walk_at "rr"
      refine r_dninA dF6.rd (at_sub hy) ?_
      walk_at "rr"
      refine r_nd (fun hin => ?_) (fun hin => ?_)
      · walk_at "rr"
        refine r_dputA f6.live (List.mem_cons_of_mem _ List.mem_cons_self) dF6 (at_sub hy) (at_bl (b := true)) (by omega) fun H7 f7 b7 dF7 => ?_
        have s7 : Same H H7 := But.back s6 hf0 b7
        have d7 := d6.fr f7 fun o e => b7 _ _ e nfd
        have o7 := o6.fr f7 fun o e => b7 _ _ e nwf.1.symm
        rw [putA_new hin] at dF7
        obtain ⟨hs, ehs⟩ := heldP_some (rw1.thing ok)
        have lhs : hs.length ≤ 260 := by
          have : hs.length ≤ (thingsP p).length := nodup_le (heldP_nd ehs) (heldP_mem ok ehs)
          omega
        walk_at "rr"
        refine o7.tyL ?_
        walk_at "rr"
        refine r_dgetA d7.rd (at_sub (f7.at_ hy)) ehs fun z hz => ?_
        walk_at "rr"
        refine r_extO f7.live List.mem_cons_self o7 hz (by omega) fun H8 f8 b8 o8 => ?_
        have ek : (l ++ [(w, true)]).map (·.1) = l.map (·.1) ++ [w] := by rw [List.map_append]; rfl
        walk_at "rr"
        refine ⟨(301 - (l ++ [(w, true)]).length) * 1000 + (t ++ hs).length, ?_, t ++ hs, l ++ [(w, true)], _, rfl, But.back s7 hw0 b8, ((f4.trans f5).trans f6).trans (f7.trans f8), dF7.fr f8 (fun o e => b8 _ _ e nwf.1), d7.fr f8 (fun o e => b8 _ _ e nwf.2), o8, ?_, fun x mx => ?_, ?_, fun x mx => ?_, fun a ma hs2 eh x mx => ?_, fun x mx => ?_, rfl⟩
        · rw [List.length_append, List.length_append, List.length_singleton]
          omega
        · rw [List.length_append, List.length_append, List.length_singleton]
          omega
        · rcases List.mem_append.mp mx with mx | mx
          · exact kw x (List.mem_append_left _ mx)
          · exact .step rw1 ehs mx
        · rw [ek, List.nodup_append]
          exact ⟨ndl, by simp, fun a ma b mb e => hin (by rw [List.mem_singleton.mp mb] at e; exact e ▸ ma)⟩
        · rw [ek] at mx
          rcases List.mem_append.mp mx with mx | mx
          · exact kl x mx
          · rw [List.mem_singleton.mp mx]
            exact rw1
        · rw [ek] at ma ⊢
          rcases List.mem_append.mp ma with ma | ma
          · rcases cl a ma hs2 eh x mx with h | h
            · exact .inl (List.mem_append_left _ h)
            · rcases List.mem_append.mp h with h | h
              · exact .inr (List.mem_append_left _ h)
              · exact .inl (List.mem_append_right _ h)
          · rw [List.mem_singleton.mp ma, ehs] at eh
            cases eh
            exact .inr (List.mem_append_right _ mx)
        · rw [ek]
          rcases rl x mx with h | h
          · exact .inl (List.mem_append_left _ h)
          · rcases List.mem_append.mp h with h | h
            · exact .inr (List.mem_append_left _ h)
            · exact .inl (List.mem_append_right _ h)
      · walk_at "rr"
        refine ⟨(301 - l.length) * 1000 + t.length, by omega, t, l, _, rfl, s6, (f4.trans f5).trans f6, dF6, d6, o6, by omega, fun x mx => kw x (List.mem_append_left _ mx), ndl, kl, fun a ma hs2 eh x mx => ?_, fun x mx => ?_, rfl⟩
        · rcases cl a ma hs2 eh x mx with h | h
          · exact .inl h
          · rcases List.mem_append.mp h with h | h
            · exact .inr h
            · rw [List.mem_singleton.mp h]
              exact .inl hin
        · rcases rl x mx with h | h
          · exact .inl h
          · rcases List.mem_append.mp h with h | h
            · exact .inr h
            · rw [List.mem_singleton.mp h]
              exact .inl hin
    · subst hn0
      have kk2 : ∀ w, w ∈ l.map (·.1) ↔ Reach p w := fun w => ⟨kl w, fun r => reach_closed (fun w mw => (rl w mw).resolve_right (by simp)) (fun a ma hs eh w mw => (cl a ma hs eh w mw).resolve_right (by simp)) r⟩
      have s45 := s4.trans s5
      have f45 := f4.trans f5
      walk_at "rr"
      refine ⟨wr :: f :: d :: ns, v, p, rfl, f5.live, f45.at_ hv3, by omega, by omega, fun th H6 s6 hth h6 => ?_⟩
      have f6 := Fr.of f5.live s6
      have dF6 := dF5.fr f6 fun o e => s6 _ _ e
      walk_at "rr"
      refine CM (fun w : Wo => if w ∈ l.map (·.1) then some w else none) f6.live h6 ?_ ?_
      · rintro D j x2 b2 zs H7 eb2 kk hb2
        walk_at "rr"
        refine r_dinA (dF6.fr (.of f6.live kk.ex) fun o e => kk.ex _ _ e).rd (at_sub hb2) ?_
        walk_at "rr"
        refine r_d (fun hin => ?_) (fun hin => ?_)
        · walk_at "rr"
          exact kk.mput eb2 (if_pos hin) (Same.refl _) hb2 (Nat.le_trans lth (by decide))
        · exact kk.mskip eb2 (if_neg hin) (Same.refl _)
      · rintro D H7 hD s7 h7
        rw [comeP_of kk2] at h7
        have f7 := Fr.of f6.live s7
        exact q D H7 ((s45.trans s6).trans s7) ((s45.trans s6).free hD) ((Fr.sub f7.live subN).at_ h7)
/-! ### lost -/
abbrev s_lost : Stmt := top 23
theorem sc_lost : FnScope ["picture", "found", "one"] ["picture"] (defScope s_lost) := ⟨rfl, rfl, rfl, by decide +kernel, rfl, by decide +kernel, by decide +kernel⟩
def sp_lost (_ : PySem.W.Frag) : Sp := fun vs H Q _ => ∃ (ns : List Addr) (v : V) (p : Pic), vs = [v] ∧ Live ns H ∧ At (del ns H) v p ∧ isPic p = true ∧ (standingP p).length ≤ 40000 ∧ p.c.length ≤ 130 ∧ p.d.length ≤ 130 ∧ ∀ (r : Addr) H', Same H H' → H r = none → At (del ns H') (.ref r) (lostP p) → Q (.ref r) H'
theorem ok_lost {fa : Addr} {fd : FuncData} (F : Fun K "lost" "lost" s_lost fa fd) (TX : Tx mg)
    (C_reached : Cal P w K mg base CX0 4 "reached" ["picture"] (sp_reached K))
    (C_things : Cal P w K mg base CX0 1 "things" ["picture"] (sp_things K)) :
    FnOk P w K mg base CX0 5 fa fd ["picture"] (sp_lost K) := by
  refine F.ok sc_lost (fun vs H Q E h => ?_) (fun cdv A outer s H vs Q E hr h => ?_)
  · obtain ⟨ns, v, p, rfl, lv, hv, ok, hl, hlc, hld, q⟩ := h
    rfl
  · obtain ⟨ns, v, p, rfl, lv, hv, ok, hl, hlc, hld, q⟩ := h
    have hu := hu_of hr
    have hu64 := hr.units
    have hu65 := hu65_of hr
    have lth : (thingsP p).length ≤ 260 := by
      unfold thingsP
      rw [List.length_append, List.length_map, List.length_map]
      omega
    have lcm := len_comeP (p := p)
    refine ⟨_, (pss_cons (ps_set (i := 1) sc_lost.nd rfl (Or.inr rfl) pe_dnewT)
  (pss_cons (ps_for PassesOwn.never rfl (pi_list (pe_cal C_reached (hr.mono (by decide)) (by rfl) pass0 (pa_cons (pv 0) pa_nil))) (pg_name (i := 2) sc_lost.nd rfl (Or.inl rfl))
  (pss_one (ps_dput hu (pv 1) (pv 2) pe_bl rfl)))
  (pss_one (ps_ret (pe_lc (own := [("one", 2)]) (g := gName 2) rfl sc_lost.nd (pi_list (pe_cal C_things (hr.mono (by decide)) (by rfl) pass0 (pa_cons (pv 0) pa_nil))) (blkOk_by (own := [("one", 2)]) (N := ["picture", "found", "one"]) (sc := defScope s_lost) (by decide +kernel)) (fun _ _ _ _ _ => (pg_name (i := 2) sc_lost.nd rfl (Or.inl rfl))) (fun _ _ _ _ _ => pts_one (pt_cmp (pc_dnotin hu (pv 2) (pv 1)))) (fun _ _ _ _ _ => (pv 2))))))), ?_⟩
    refine r_begin (show L2.start _ _ = [some _, none, none] from rfl) ?_
    try dsimp only [cxOf]
    walk_at "rr"
    intro f hf
    have s1 : Same H (upd H f (.dT [])) := same_new hf
    have f1 : Fr ns H (f :: ns) (upd H f (.dT [])) := (newD (κ := Wo) (α := Bool) lv hf).1
    have d1 : Dc (κ := Wo) (α := Bool) (f :: ns) (upd H f (.dT [])) f [] := (newD lv hf).2
    generalize upd H f (.dT []) = H1 at s1 f1 d1 ⊢
    walk_at "rr"
    refine ⟨f :: ns, v, p, rfl, f1.live, f1.at_ hv, ok, hl, hlc, hld, fun r H2 s2 hr h2 => ?_⟩
    have f2 := Fr.of f1.live s2
    have d2 := d1.fr f2 fun o e => s2 _ _ e
    walk_at "rr"
    refine LA (ms := f :: ns) h2 (fun i σ H3 => ∃ (u2 : Option V) (l : List (Wo × Bool)), σ = [some v, some (.ref f), u2] ∧ Same H H3 ∧ Fr (f :: ns) H2 (f :: ns) H3 ∧ Dc (f :: ns) H3 f l ∧ l.length ≤ i ∧ ∀ x, x ∈ l.map (·.1) ↔ x ∈ (comeP p).take i) ⟨_, [], rfl, s1.trans s2, .refl f2.live, d2, Nat.le_refl _, by simp⟩ (fun i σ H3 _ ⟨_, _, _, _, g, _⟩ => g) ?_ ?_
    · rintro i b x σ H3 eb hb ⟨u2, l, rfl, s3, f3, d3, ll3, kl3⟩
      have hi := (List.getElem?_eq_some_iff.mp eb).1
      walk_at "rr"
      refine r_dputA f3.live List.mem_cons_self d3 (at_sub hb) (at_bl (b := true)) (by omega) fun H4 f4 b4 d4 => ?_
      walk_at "rr"
      refine ⟨_, _, rfl, But.back s3 hf b4, f3.trans f4, d4, Nat.le_trans putA_len (by omega), fun y => ?_⟩
      rw [putA_mem_keys, kl3, List.take_add_one, eb, List.mem_append]
      simp [or_comm]
    · rintro σ H3 ⟨u2, l, rfl, s3, f3, d3, ll3, kl3⟩
      rw [List.take_length] at kl3
      have kk2 : ∀ w, w ∈ l.map (·.1) ↔ Reach p w := fun w => (kl3 w).trans (mem_comeP ok)
      have f13 := (f1.trans f2).trans f3
      walk_at "rr"
      refine ⟨f :: ns, v, p, rfl, f3.live, f13.at_ hv, by omega, by omega, fun th H4 s4 hth h4 => ?_⟩
      have f4 := Fr.of f3.live s4
      have d4 := d3.fr f4 fun o e => s4 _ _ e
      walk_at "rr"
      refine CM (fun w : Wo => if w ∈ l.map (·.1) then none else some w) f4.live h4 ?_ ?_
      · rintro D j x2 b2 zs H5 eb2 kk hb2
        walk_at "rr"
        refine r_dninA (d4.fr (.of f4.live kk.ex) fun o e => kk.ex _ _ e).rd (at_sub hb2) ?_
        walk_at "rr"
        refine r_nd (fun hin => ?_) (fun hin => ?_)
        · walk_at "rr"
          exact kk.mput eb2 (if_neg hin) (Same.refl _) hb2 (Nat.le_trans lth (by decide))
        · exact kk.mskip eb2 (if_pos hin) (Same.refl _)
      · rintro D H5 hD s5 h5
        rw [lostP_of kk2] at h5
        exact q D H5 ((s3.trans s4).trans s5) ((s3.trans s4).free hD) ((Fr.sub (f4.live.same s5) fun x mx => List.mem_cons_of_mem _ mx).at_ h5)
/-! ### swept -/
abbrev s_swept : Stmt := top 24
theorem sc_swept : FnScope ["picture", "gone", "one", "pile", "pegs", "goings", "boxes", "left", "g", "place", "row", "b", "worth"] ["picture"] (defScope s_swept) := ⟨rfl, rfl, rfl, by decide +kernel, rfl, by decide +kernel, by decide +kernel⟩
def sp_swept (_ : PySem.W.Frag) : Sp := fun vs H Q _ => ∃ (ns : List Addr) (v : V) (p : Pic), vs = [v] ∧ Live ns H ∧ At (del ns H) v p ∧ isPic p = true ∧ (standingP p).length ≤ 40000 ∧ p.c.length ≤ 130 ∧ p.d.length ≤ 130 ∧ ∀ (r : Addr) (L : List Addr) H', Same H H' → H r = none → (∀ a ∈ L, H a = none) → PicN H' (.ref r) (sweptP p (lostP p)) L → Q (.ref r) H'
theorem ok_swept {fa : Addr} {fd : FuncData} (F : Fun K "swept" "swept" s_swept fa fd) (TX : Tx mg)
    (C_lost : Cal P w K mg base CX0 5 "lost" ["picture"] (sp_lost K)) :
    FnOk P w K mg base CX0 6 fa fd ["picture"] (sp_swept K) := by
  refine F.ok sc_swept (fun vs H Q E h => ?_) (fun cdv A outer s H vs Q E hr h => ?_)
  · obtain ⟨ns, v, p, rfl, lv, hv, ok, hl, hlc, hld, q⟩ := h
    rfl
  · obtain ⟨ns, v, p, rfl, lv, hv, ok, hl, hlc, hld, q⟩ := h
    have hu := hu_of hr
    have hu64 := hr.units
    have hu65 := hu65_of hr
    have lth : (thingsP p).length ≤ 260 := by
      unfold thingsP
      rw [List.length_append, List.length_map, List.length_map]
      omega
    have llo := len_lostP (p := p)
    refine ⟨_, (pss_cons (ps_set (i := 1) sc_swept.nd rfl (Or.inr rfl) pe_dnewT)
  (pss_cons (ps_for PassesOwn.never rfl (pi_list (pe_cal C_lost (hr.mono (by decide)) (by rfl) pass0 (pa_cons (pv 0) pa_nil))) (pg_name (i := 2) sc_swept.nd rfl (Or.inl rfl))
  (pss_one (ps_dput hu (pv 1) (pv 2) pe_bl rfl)))
  (pss_cons (ps_asg (pv 0) (pg_tup rfl (pgs_cons (pg_name (i := 3) sc_swept.nd rfl (Or.inl rfl)) (pgs_cons (pg_name (i := 4) sc_swept.nd rfl (Or.inl rfl)) (pgs_cons (pg_name (i := 5) sc_swept.nd rfl (Or.inl rfl)) (pgs_cons (pg_name (i := 6) sc_swept.nd rfl (Or.inl rfl)) pgs_nil))))))
  (pss_cons (ps_setLc (i := 7) (own := [("g", 8), ("place", 9), ("row", 10)]) (g := gTup K 3 (gCons (gName 8) (gCons (gName 9) (gCons (gName 10) gNil)))) rfl sc_swept.nd rfl rfl (sw_true rfl rfl rfl (by decide +kernel)) (pi_list (pv 5)) (blkOk_by (own := [("g", 8), ("place", 9), ("row", 10)]) (N := ["picture", "gone", "one", "pile", "pegs", "goings", "boxes", "left", "g", "place", "row", "b", "worth"]) (sc := defScope s_swept) (by decide +kernel)) (fun _ _ _ _ _ => (kPG (gTup K _ _) (pg_tup rfl (pgs_cons (pg_name (i := 8) sc_swept.nd rfl (Or.inl rfl)) (pgs_cons (pg_name (i := 9) sc_swept.nd rfl (Or.inl rfl)) (pgs_cons (pg_name (i := 10) sc_swept.nd rfl (Or.inl rfl)) pgs_nil)))) rfl)) (fun _ _ _ _ _ => pts_one (pt_cmp (pc_dnotin hu (pe_tup (pa_cons pe_str (pa_cons (pv 8) pa_nil))) (pv 1)))) (fun _ _ _ _ _ => (pe_tup (pa_cons (pv 8) (pa_cons (pv 9) (pa_cons (pe_callTy (kCallR (rListOf K) call_list_of rfl) (by rfl) TX.n_list (by decide +kernel) (pa_cons (pv 10) pa_nil)) pa_nil))))))
  (pss_one (ps_ret (pe_tup (pa_cons (pe_callTy (kCallR (rListOf K) call_list_of rfl) (by rfl) TX.n_list (by decide +kernel) (pa_cons (pv 3) pa_nil)) (pa_cons (pe_callTy (kCallR (rListOf K) call_list_of rfl) (by rfl) TX.n_list (by decide +kernel) (pa_cons (pv 4) pa_nil)) (pa_cons (pv 7) (pa_cons (pe_lc (own := [("b", 11), ("worth", 12)]) (g := gTup K 2 (gCons (gName 11) (gCons (gName 12) gNil))) rfl sc_swept.nd (pi_list (pv 6)) (blkOk_by (own := [("b", 11), ("worth", 12)]) (N := ["picture", "gone", "one", "pile", "pegs", "goings", "boxes", "left", "g", "place", "row", "b", "worth"]) (sc := defScope s_swept) (by decide +kernel)) (fun _ _ _ _ _ => (kPG (gTup K _ _) (pg_tup rfl (pgs_cons (pg_name (i := 11) sc_swept.nd rfl (Or.inl rfl)) (pgs_cons (pg_name (i := 12) sc_swept.nd rfl (Or.inl rfl)) pgs_nil))) rfl)) (fun _ _ _ _ _ => pts_one (pt_cmp (pc_dnotin hu (pe_tup (pa_cons pe_str (pa_cons (pv 11) pa_nil))) (pv 1)))) (fun _ _ _ _ _ => (pe_tup (pa_cons (pv 11) (pa_cons (pv 12) pa_nil))))) pa_nil))))))))))), ?_⟩
    refine r_begin (show L2.start _ _ = [some _, none, none, none, none, none, none, none, none, none, none, none, none] from rfl) ?_
    try dsimp only [cxOf]
    walk_at "rr"
    intro f hf
    have s1 : Same H (upd H f (.dT [])) := same_new hf
    have f1 : Fr ns H (f :: ns) (upd H f (.dT [])) := (newD (κ := Wo) (α := Bool) lv hf).1
    have d1 : Dc (κ := Wo) (α := Bool) (f :: ns) (upd H f (.dT [])) f [] := (newD lv hf).2
    generalize upd H f (.dT []) = H1 at s1 f1 d1 ⊢
    walk_at "rr"
    refine ⟨f :: ns, v, p, rfl, f1.live, f1.at_ hv, ok, hl, hlc, hld, fun r H2 s2 hr h2 => ?_⟩
    have f2 := Fr.of f1.live s2
    have d2 := d1.fr f2 fun o e => s2 _ _ e
    walk_at "rr"
    refine LA (ms := f :: ns) h2 (fun i σ H3 => ∃ (u2 : Option V) (l : List (Wo × Bool)), σ = [some v, some (.ref f), u2, none, none, none, none, none, none, none, none, none, none] ∧ Same H H3 ∧ Fr (f :: ns) H2 (f :: ns) H3 ∧ Dc (f :: ns) H3 f l ∧ l.length ≤ i ∧ ∀ x, x ∈ l.map (·.1) ↔ x ∈ (lostP p).take i) ⟨_, [], rfl, s1.trans s2, .refl f2.live, d2, Nat.le_refl _, by simp⟩ (fun i σ H3 _ ⟨_, _, _, _, g, _⟩ => g) ?_ ?_
    · rintro i b x σ H3 eb hb ⟨u2, l, rfl, s3, f3, d3, ll3, kl3⟩
      have hi := (List.getElem?_eq_some_iff.mp eb).1
      walk_at "rr"
      refine r_dputA f3.live List.mem_cons_self d3 (at_sub hb) (at_bl (b := true)) (by omega) fun H4 f4 b4 d4 => ?_
      walk_at "rr"
      refine ⟨_, _, rfl, But.back s3 hf b4, f3.trans f4, d4, Nat.le_trans putA_len (by omega), fun y => ?_⟩
      rw [putA_mem_keys, kl3, List.take_add_one, eb, List.mem_append]
      simp [or_comm]
    rintro σ H3 ⟨u2, l, rfl, s3, f3, d3, ll3, kl3⟩
    rw [List.take_length] at kl3
    have hv3 := ((f1.trans f2).trans f3).at_ hv
    walk_at "rr"
    refine r_t4 hv3 fun x y z u hx hy hz hu2 => ?_
    walk_at "rr"
    have eF : (fun r : Going => if (("go", r.a) : Wo) ∈ l.map (·.1) then none else some r) = fun r : Going => if (("go", r.a) : Wo) ∈ lostP p then none else some r := by
      funext r
      by_cases c : (("go", r.a) : Wo) ∈ lostP p
      · rw [if_pos c, if_pos ((kl3 _).mpr c)]
      · rw [if_neg c, if_neg fun m => c ((kl3 _).mp m)]
    have eG : (fun r : Int × Wo => if (("box", r.1) : Wo) ∈ l.map (·.1) then none else some r) = fun r : Int × Wo => if (("box", r.1) : Wo) ∈ lostP p then none else some r := by
      funext r
      by_cases c : (("box", r.1) : Wo) ∈ lostP p
      · rw [if_pos c, if_pos ((kl3 _).mpr c)]
      · rw [if_neg c, if_neg fun m => c ((kl3 _).mp m)]
    obtain ⟨tz, xz, rfl, ez, rz⟩ := hz
    have d3r : ∀ {H4 : Hp}, Same H3 H4 → Dcr (f :: ns) H4 f l := fun s4 => (d3.fr (.of f3.live s4) fun o e => s4 _ _ e).rd
    refine ⟨tz, rfl, ⟨xz, .inl (.inl (of_del ez).1)⟩, C_list (xs := xz) (fun D i H4 => H3 D = none ∧ Same H3 H4 ∧ ∃ ts rs : List Addr, H4 D = some (.lst (ts.map V.ref)) ∧ GoRs H4 ts rs ((p.c.take i).filterMap fun r : Going => if (("go", r.a) : Wo) ∈ lostP p then none else some r) ∧ (∀ a ∈ rs, H3 a = none ∧ a ≠ D) ∧ rs.Nodup) ?_ ?_ ?_ ?_⟩
    · intro D hD
      exact ⟨hD, same_new hD, [], [], upd_same, .nil, fun a m => (by cases m), .nil⟩
    · rintro D i H4 _ ⟨_, s4, _⟩
      exact .inl (.inl (s4 _ _ (of_del ez).1))
    · rintro D i x1 H4 ex ⟨hD, s4, ts, rs, eD, go, nw, ndr⟩
      obtain ⟨b, eb, hb⟩ := rz.get ex
      have f4 := Fr.of f3.live s4
      have hb4 := f4.at_ hb
      have hi := (List.getElem?_eq_some_iff.mp eb).1
      have lts := go.len.1
      have lfm := List.length_filterMap_le (fun r : Going => if (("go", r.a) : Wo) ∈ lostP p then none else some r) (p.c.take i)
      rw [List.length_take] at lfm
      walk_at "rr"
      refine r_t3 hb4 fun n w r hn hw hr => ?_
      cases hn
      cases hw
      walk_at "rr"
      refine r_tupA2 (x := .str "go") (ab := (("go", b.a) : Wo)) f4.live (at_str ok_go) (at_int (n := b.a)) fun t5 H5 ht5 s5 h5 => ?_
      have f5 := f4.trans (.of f4.live s5)
      have go5 := go.same s5
      have eD5 := s5 _ _ eD
      walk_at "rr"
      refine r_dninA (d3r (s4.trans s5)) (at_sub h5) ?_
      walk_at "rr"
      refine r_nd (fun hin => ?_) (fun hin => ?_)
      · walk_at "rr"
        refine r_listA f5.live ((Fr.of f4.live s5).at_ hr) fun l3 H6 hl3 s6 h6 => ?_
        have nD3 : l3 ≠ D := fun e => by rw [e, eD5] at hl3; cases hl3
        have p3 := Ls.of h6
        walk_at "rr"
        refine ⟨Nat.le_of_ble_eq_true rfl, fun t7 ht7 => ?_⟩
        have s7 := same_new (o := .tup [.int b.a, .int b.b, .ref l3]) ht7
        have e7 : (upd H6 t7 (.tup [.int b.a, .int b.b, .ref l3])) t7 = some (.tup [.int b.a, .int b.b, .ref l3]) := upd_same
        generalize upd H6 t7 (.tup [.int b.a, .int b.b, .ref l3]) = H7 at s7 e7 ⊢
        have s57 := s6.trans s7
        have lD : Live [D] H7 := .one (.lst (s57 _ _ eD5))
        have bD : Buts [D] H7 (upd H7 D (.lst (ts.map V.ref ++ [V.ref t7]))) := fun c o e n => by
          rw [upd_ne (fun e => n (List.mem_singleton.mpr e))]
          exact e
        have nr : ∀ a ∈ rs ++ [l3], H3 a = none ∧ a ≠ D := fun a m => by
          rcases List.mem_append.mp m with m | m
          · exact nw a m
          · rw [List.mem_singleton.mp m]
            exact ⟨(s4.trans s5).free hl3, nD3⟩
        have g7 : GoRs H7 (ts ++ [t7]) (rs ++ [l3]) ((p.c.take i).filterMap (fun r : Going => if (("go", r.a) : Wo) ∈ lostP p then none else some r) ++ [b]) := (go5.same s57).app (.one ⟨e7, p3.same s7⟩)
        refine ⟨_, s57 _ _ eD5, szl (by rw [List.length_map]; omega), hD, Same.own ((s4.trans s5).trans s57) hD, ts ++ [t7], rs ++ [l3], by rw [upd_same, List.map_append]; rfl, ?_, nr, ?_⟩
        · rw [List.take_add_one, eb, List.filterMap_append]
          have e9 : (Option.some b).toList.filterMap (fun r : Going => if (("go", r.a) : Wo) ∈ lostP p then none else some r) = [b] := by
            show [b].filterMap _ = [b]
            rw [List.filterMap_cons, if_neg fun m => hin ((kl3 _).mpr m)]
            rfl
          rw [e9]
          exact g7.buts lD bD fun a m e => (nr a m).2 (List.mem_singleton.mp e)
        · rw [List.nodup_append]
          refine ⟨ndr, by simp, fun a ma c mc e => ?_⟩
          rw [List.mem_singleton] at mc
          obtain ⟨i2, hi2⟩ := List.mem_iff_getElem?.mp ma
          obtain ⟨_, _, _, _, k⟩ := go5.getR hi2
          obtain ⟨xs, ek, _⟩ := k.row
          rw [e, mc, hl3] at ek
          cases ek
      · refine ⟨hD, s4.trans s5, ts, rs, eD5, ?_, nw, ndr⟩
        rw [List.take_add_one, eb, List.filterMap_append]
        have e9 : (Option.some b).toList.filterMap (fun r : Going => if (("go", r.a) : Wo) ∈ lostP p then none else some r) = [] := by
          show [b].filterMap _ = []
          rw [List.filterMap_cons, if_pos ((kl3 _).mp hin)]
          rfl
        rw [e9, List.append_nil]
        exact go5
    rintro D H4 hD ⟨_, s4, ts, rs, eD, go, nw, ndr⟩
    rw [show xz.length = p.c.length from rz.len, List.take_length] at go
    have f4 := Fr.of f3.live s4
    walk_at "rr"
    refine r_listA f4.live (f4.at_ hx) fun l1 H5 hl1 s5 h5 => ?_
    have f5 := Fr.of f4.live s5
    walk_at "rr"
    refine r_listA f5.live ((f4.trans f5).at_ hy) fun l2 H6 hl2 s6 h6 => ?_
    have f6 := Fr.of f5.live s6
    have s36 := (s4.trans s5).trans s6
    walk_at "rr"
    refine CM (fun r : Int × Wo => if (("box", r.1) : Wo) ∈ l.map (·.1) then none else some r) f6.live (((f4.trans f5).trans f6).at_ hu2) ?_ ?_
    · rintro D2 i x1 b zs H7 eb k hb
      walk_at "rr"
      refine r_t2 hb fun n w hn hw => ?_
      walk_at "rr"
      refine r_tupA2 (x := .str "box") (ab := (("box", b.1) : Wo)) k.lv (at_str ok_box) hn fun t5 H8 ht5 s8 h8 => ?_
      have g8 := Fr.of k.lv s8
      have s38 := s36.trans (Same.trans k.ex s8)
      walk_at "rr"
      refine r_dninA (d3r s38) (at_sub h8) ?_
      walk_at "rr"
      refine r_nd (fun hin => ?_) (fun hin => ?_)
      · walk_at "rr"
        refine r_tupA2 (ab := b) g8.live (g8.at_ hn) (g8.at_ hw) fun t7 H9 ht7 s9 h9 => ?_
        exact k.mput eb (if_neg hin) (s8.trans s9) h9
      · exact k.mskip eb (if_pos hin) s8
    rintro D2 H7 hD2 s7 h7
    rw [eG] at h7
    walk_at "rr"
    refine ⟨Nat.le_of_ble_eq_true rfl, fun T hT => ?_⟩
    have s8 := same_new (o := .tup [.ref l1, .ref l2, .ref D, .ref D2]) hT
    have e8 : (upd H7 T (.tup [.ref l1, .ref l2, .ref D, .ref D2])) T = some (.tup [.ref l1, .ref l2, .ref D, .ref D2]) := upd_same
    generalize upd H7 T (.tup [.ref l1, .ref l2, .ref D, .ref D2]) = H8 at s8 e8 ⊢
    have s47 := (s5.trans s6).trans s7
    have s48 := s47.trans s8
    have s38 := s4.trans s48
    have p1 := Ls.of h5
    have p2 := Ls.of h6
    have p4 := Ls.of h7
    obtain ⟨x1, e1, _⟩ := id p1
    obtain ⟨x2, e2, _⟩ := id p2
    obtain ⟨x4, e4, _⟩ := id p4
    have ne : ∀ {Ha : Hp} {a c : Addr} {o : HO}, Ha a = some o → Ha c = none → a ≠ c := fun e e' z => by rw [z, e'] at e; cases e
    have rlv : ∀ a ∈ rs, ∃ o, H4 a = some o := fun a m => by
      obtain ⟨o, e, _⟩ := go.lv a m
      exact ⟨o, e⟩
    refine q T _ H8 (s3.trans s38) (s3.free (s4.free (s47.free hT))) (fun a m => ?_) ⟨T, l1, l2, D, D2, ts, rs, rfl, rfl, e8, ?_, ((p1.same s6).same s7).same s8, (p2.same s7).same s8, s48 _ _ eD, go.same s48, p4.same s8⟩
    · rcases List.mem_cons.mp m with rfl | m
      · exact s3.free (s4.free hl1)
      rcases List.mem_cons.mp m with rfl | m
      · exact s3.free (s4.free (s5.free hl2))
      rcases List.mem_cons.mp m with rfl | m
      · exact s3.free hD
      rcases List.mem_cons.mp m with rfl | m
      · exact s3.free (s36.free hD2)
      · exact s3.free (nw a m).1
    · refine List.nodup_cons.mpr ⟨?_, List.nodup_cons.mpr ⟨?_, List.nodup_cons.mpr ⟨?_, List.nodup_cons.mpr ⟨fun m => ?_, ndr⟩⟩⟩⟩
      · simp only [List.mem_cons, not_or]
        refine ⟨ne e1 hl2, (ne eD hl1).symm, ne (s6 _ _ e1) hD2, fun m => ?_⟩
        obtain ⟨o, e⟩ := rlv _ m
        exact ne e hl1 rfl
      · simp only [List.mem_cons, not_or]
        refine ⟨(ne (s5 _ _ eD) hl2).symm, ne e2 hD2, fun m => ?_⟩
        obtain ⟨o, e⟩ := rlv _ m
        exact ne (s5 _ _ e) hl2 rfl
      · simp only [List.mem_cons, not_or]
        exact ⟨ne (s6 _ _ (s5 _ _ eD)) hD2, fun m => (nw _ m).2 rfl⟩
      · obtain ⟨o, e⟩ := rlv _ m
        exact ne (s6 _ _ (s5 _ _ e)) hD2 rfl
/-! ### _law_cell_at -/
abbrev s__law_cell_at : Stmt := top 26
theorem sc__law_cell_at : FnScope ["script", "k"] ["script", "k"] (defScope s__law_cell_at) := ⟨rfl, rfl, rfl, by decide +kernel, rfl, by decide +kernel, by decide +kernel⟩
def sp__law_cell_at (K : PySem.W.Frag) : Sp := fun vs H Q _ => ∃ (a : Addr) (ns : List Int) (k : Int), vs = [.ref a, .int k] ∧ SqL K H a (ns.map V.int) ∧ 0 ≤ k ∧ ns.length ≤ 63 ∧ ∀ c : Int, Q (.int c) H
theorem ok__law_cell_at {fa : Addr} {fd : FuncData} (F : Fun K "_law_cell_at" "_law_cell_at" s__law_cell_at fa fd) (TX : Tx mg) :
    FnOk P w K mg base CX0 1 fa fd ["script", "k"] (sp__law_cell_at K) := by
  refine F.ok sc__law_cell_at (fun vs H Q E h => ?_) (fun cdv A outer s H vs Q E hr h => ?_)
  · obtain ⟨a, ns, k, rfl, hS, hk, hn, q⟩ := h
    rfl
  · obtain ⟨a, ns, k, rfl, hS, hk, hn, q⟩ := h
    have hu := hu_of hr
    have hu64 := hr.units
    have hu65 := hu65_of hr
    refine ⟨_, (pss_cons (ps_if (pt_cmpR op_lt (pv 1) (pe_callB call_len (by rfl) TX.n_len (by decide +kernel) (pa_cons (pv 0) pa_nil)) (nomark _)) (pss_one (ps_ret (pe_ix ix_list (pv 0) (pv 1) (fun _ _ => rfl)))) pss_nil)
  (pss_one (ps_ret pe_int))), ?_⟩
    refine r_begin (show L2.start _ _ = [some _, some _] from rfl) ?_
    try dsimp only [cxOf]
    walk_at "rr"
    refine ⟨_, _, rfl, .inl ⟨_, hS, rfl⟩, ?_⟩
    walk_at "rr"
    refine r_d (fun hc => ?_) (fun hc => ?_)
    · walk_at "rr"
      rw [List.length_map] at hc
      obtain ⟨j, rfl⟩ : ∃ j : Nat, k = (j : Int) := ⟨k.toNat, by omega⟩
      have hj : j < ns.length := by omega
      have e : (ns.map V.int)[j]? = some (.int ns[j]) := by
        rw [List.getElem?_map, List.getElem?_eq_getElem hj]
        rfl
      refine r_ixL hS (atI_nat e) ?_
      exact q _
    · walk_at "rr"
      exact q _
/-! ### _law_stir -/
abbrev s__law_stir : Stmt := top 27
theorem sc__law_stir : FnScope ["seed", "turn", "number"] ["seed", "turn"] (defScope s__law_stir) := ⟨rfl, rfl, rfl, by decide +kernel, rfl, by decide +kernel, by decide +kernel⟩
def sp__law_stir (_ : PySem.W.Frag) : Sp := fun vs H Q _ => ∃ (s t : Int), vs = [.int s, .int t] ∧ 0 ≤ s ∧ s < 1000000000000000000000000000000000000000000 ∧ 0 ≤ t ∧ t ≤ 1000000000 ∧ ∀ i : Int, 0 ≤ i → Q (.int i) H
theorem ok__law_stir {fa : Addr} {fd : FuncData} (F : Fun K "_law_stir" "_law_stir" s__law_stir fa fd) (TX : Tx mg) :
    FnOk P w K mg base CX0 1 fa fd ["seed", "turn"] (sp__law_stir K) := by
  refine F.ok sc__law_stir (fun vs H Q E h => ?_) (fun cdv A outer s H vs Q E hr h => ?_)
  · obtain ⟨s, t, rfl, s0, s1, t0, t1, k⟩ := h
    rfl
  · obtain ⟨s, t, rfl, s0, s1, t0, t1, k⟩ := h
    have hu := hu_of hr
    have hu64 := hr.units
    have hu65 := hu65_of hr
    refine ⟨_, (pss_cons (ps_set (i := 2) sc__law_stir.nd rfl (Or.inl rfl) (pe_op op_add (pe_op op_mulW (pe_op op_add (pv 0) pe_int) pe_int) (pe_op op_mulW (pe_op op_add (pv 1) pe_int) pe_int)))
  (pss_one (ps_ret (pe_op op_mod (pe_op op_powW (pv 2) pe_int) pe_int)))), ?_⟩
    refine r_begin (show L2.start _ _ = [some _, some _, none] from rfl) ?_
    try dsimp only [cxOf]
    walk_at "rr"
    exact k _ (Int.emod_nonneg _ (by decide))
/-! ### _law_well -/
abbrev s__law_well : Stmt := top 28
theorem sc__law_well : FnScope ["cell", "k", "seed"] ["cell", "k"] (defScope s__law_well) := ⟨rfl, rfl, rfl, by decide +kernel, rfl, by decide +kernel, by decide +kernel⟩
def sp__law_well (_ : PySem.W.Frag) : Sp := fun vs H Q _ => ∃ (c k : Int), vs = [.int c, .int k] ∧ 0 ≤ k ∧ k ≤ 1000 ∧ ∀ (p : Addr) (H' : Hp), H p = none → Same H H' → WellAt H' p 0 → Q (.ref p) H'
theorem ok__law_well {fa : Addr} {fd : FuncData} (F : Fun K "_law_well" "_law_well" s__law_well fa fd) (TX : Tx mg)
    (C__law_stir : Cal P w K mg base CX0 1 "_law_stir" ["seed", "turn"] (sp__law_stir K)) :
    FnOk P w K mg base CX0 2 fa fd ["cell", "k"] (sp__law_well K) := by
  refine F.ok sc__law_well (fun vs H Q E h => ?_) (fun cdv A outer s H vs Q E hr h => ?_)
  · obtain ⟨c, k, rfl, k0, k1, q⟩ := h
    rfl
  · obtain ⟨c, k, rfl, k0, k1, q⟩ := h
    have hu := hu_of hr
    have hu64 := hr.units
    have hu65 := hu65_of hr
    have e40 : (10 : Int) ^ Int.toNat 40 = 10000000000000000000000000000000000000000 := by decide +kernel
    have e18 : (10 : Int) ^ Int.toNat 18 = 1000000000000000000 := by decide +kernel
    have g1 := Int.emod_nonneg c (show (10000000000000000000000000000000000000000 : Int) ≠ 0 by decide)
    have g2 := Int.emod_lt_of_pos c (show (0 : Int) < 10000000000000000000000000000000000000000 by decide)
    refine ⟨_, (pss_cons (ps_set (i := 2) sc__law_well.nd rfl (Or.inl rfl) (pe_op op_add (pe_op op_mul (pe_op op_mod (pv 0) (pe_op op_pow pe_int pe_int)) pe_int) (pv 1)))
  (pss_cons (ps_if (pt_cmpR op_ge (pv 0) (pe_op op_pow pe_int pe_int) (nomark _)) (pss_one (ps_ret (pe_lst (pa_cons (pe_op op_sub (pv 0) (pe_op op_pow pe_int pe_int)) (pa_cons (pv 2) (pa_cons pe_int pa_nil)))))) pss_nil)
  (pss_one (ps_ret (pe_lst (pa_cons (pe_cal C__law_stir (hr.mono (by decide)) (by rfl) pass0 (pa_cons (pv 2) (pa_cons pe_int pa_nil))) (pa_cons (pv 2) (pa_cons pe_int pa_nil)))))))), ?_⟩
    refine r_begin (show L2.start _ _ = [some _, some _, none] from rfl) ?_
    try dsimp only [cxOf]
    walk_at "rr"
    rw [e40, e18]
    refine r_d (fun hc => ?_) (fun hc => ?_)
    · walk_at "rr"
      rw [e18]
      refine ⟨by show 3 ≤ sizeLine; decide, fun p hp => ?_⟩
      walk_at "rr"
      exact q p _ hp (same_new hp) ⟨_, _, _, upd_same, by omega, by omega, by omega, by decide, by decide⟩
    · walk_at "rr"
      refine ⟨_, 0, rfl, by omega, by omega, by decide, by decide, fun i i0 => ?_⟩
      walk_at "rr"
      refine ⟨by show 3 ≤ sizeLine; decide, fun p hp => ?_⟩
      exact q p _ hp (same_new hp) ⟨_, _, _, upd_same, i0, by omega, by omega, by decide, by decide⟩
/-! ### _law_draw -/
abbrev s__law_draw : Stmt := top 29
theorem sc__law_draw : FnScope ["well", "many", "taken"] ["well", "many"] (defScope s__law_draw) := ⟨rfl, rfl, rfl, by decide +kernel, rfl, by decide +kernel, by decide +kernel⟩
def sp__law_draw (_ : PySem.W.Frag) : Sp := fun vs H Q _ => ∃ (p : Addr) (m : Int) (n : Nat), vs = [.ref p, .int m] ∧ WellAt H p n ∧ 0 < m ∧ m.natAbs < 2 ^ 220 ∧ n < 1000000000 ∧
  ∀ (i : Int) (H' : Hp), 0 ≤ i → i < m → But p H H' → WellAt H' p (n + 1) → Q (.int i) H'
theorem ok__law_draw {fa : Addr} {fd : FuncData} (F : Fun K "_law_draw" "_law_draw" s__law_draw fa fd) (TX : Tx mg)
    (C__law_stir : Cal P w K mg base CX0 1 "_law_stir" ["seed", "turn"] (sp__law_stir K)) :
    FnOk P w K mg base CX0 2 fa fd ["well", "many"] (sp__law_draw K) := by
  refine F.ok sc__law_draw (fun vs H Q E h => ?_) (fun cdv A outer s H vs Q E hr h => ?_)
  · obtain ⟨p, m, n, rfl, ⟨a, b, c, eb, h0, h1, h2, h3, h4⟩, hm, hm2, hn, k⟩ := h
    rfl
  · obtain ⟨p, m, n, rfl, ⟨a, b, c, eb, h0, h1, h2, h3, h4⟩, hm, hm2, hn, k⟩ := h
    have hu := hu_of hr
    have hu64 := hr.units
    have hu65 := hu65_of hr
    refine ⟨_, (pss_cons (ps_if (pt_cmpR op_eq (pe_ix ix_list (pv 0) pe_int (fun _ _ => rfl)) pe_int (nomark _)) (pss_cons (ps_asg (pe_op op_add (pe_ix ix_list (pv 0) pe_int (fun _ _ => rfl)) pe_int) (pg_sub (pv 0) pe_int set_list))
  (pss_one (ps_asg (pe_cal C__law_stir (hr.mono (by decide)) (by rfl) pass0 (pa_cons (pe_ix ix_list (pv 0) pe_int (fun _ _ => rfl)) (pa_cons (pe_ix ix_list (pv 0) pe_int (fun _ _ => rfl)) pa_nil))) (pg_sub (pv 0) pe_int set_list)))) pss_nil)
  (pss_cons (ps_set (i := 2) sc__law_draw.nd rfl (Or.inl rfl) (pe_op op_mod (pe_ix ix_list (pv 0) pe_int (fun _ _ => rfl)) (pv 1)))
  (pss_cons (ps_asg (pe_op op_fdivW (pe_ix ix_list (pv 0) pe_int (fun _ _ => rfl)) (pv 1)) (pg_sub (pv 0) pe_int set_list))
  (pss_one (ps_ret (pv 2)))))), ?_⟩
    refine r_begin (show L2.start _ _ = [some _, some _, none] from rfl) ?_
    try dsimp only [cxOf]
    walk_at "rr"
    try rw [dint']
    refine r_d (fun hc => ?_) (fun hc => ?_)
    · walk_at "rr"
      refine r_setL (j := 2) (ys := [.int a, .int b, .int (c + 1)]) eb rfl rfl ?_
      have e2 : (upd H p (.lst [.int a, .int b, .int (c + 1)])) p = some (.lst [.int a, .int b, .int (c + 1)]) := upd_same
      walk_at "rr"
      refine ⟨b, c + 1, rfl, h1, h2, by omega, by omega, fun i i0 => ?_⟩
      walk_at "rr"
      refine r_setL (j := 0) (ys := [.int i, .int b, .int (c + 1)]) e2 rfl rfl ?_
      have e3 : (upd (upd H p (.lst [.int a, .int b, .int (c + 1)])) p (.lst [.int i, .int b, .int (c + 1)])) p = some (.lst [.int i, .int b, .int (c + 1)]) := upd_same
      walk_at "rr"
      refine r_setL (j := 0) (ys := [.int (i / m), .int b, .int (c + 1)]) e3 rfl rfl ?_
      walk_at "rr"
      exact k _ _ (Int.emod_nonneg _ (by omega)) (Int.emod_lt_of_pos _ hm) ((But.upd.trans But.upd).trans But.upd) ⟨_, _, _, upd_same, Int.ediv_nonneg i0 (by omega), h1, h2, by omega, by omega⟩
    · walk_at "rr"
      refine r_setL (j := 0) (ys := [.int (a / m), .int b, .int c]) eb rfl rfl ?_
      walk_at "rr"
      exact k _ _ (Int.emod_nonneg _ (by omega)) (Int.emod_lt_of_pos _ hm) But.upd ⟨_, _, _, upd_same, Int.ediv_nonneg h0 (by omega), h1, h2, h3, by omega⟩
/-! ### _law_worth -/
abbrev s__law_worth : Stmt := top 30
theorem sc__law_worth : FnScope ["well", "some", "way", "number"] ["well", "some"] (defScope s__law_worth) := ⟨rfl, rfl, rfl, by decide +kernel, rfl, by decide +kernel, by decide +kernel⟩
def sp__law_worth (_ : PySem.W.Frag) : Sp := fun vs H Q _ => ∃ (w : Addr) (v : V) (l : List Wo) (n : Nat) (ns : List Addr), vs = [.ref w, v] ∧ Live ns H ∧ w ∈ ns ∧ WellAt H w n ∧ At (del ns H) v l ∧ n + 30 < 1000000000 ∧ l.length ≤ 1000 ∧ ∀ r a H', Fr ns H ns H' → But w H H' → WellAt H' w (n + 10) → At (del ns H') r a → (a ∈ l ∨ isW a.1 a.2 = true ∧ isT a = false) → Q r H'
theorem ok__law_worth {fa : Addr} {fd : FuncData} (F : Fun K "_law_worth" "_law_worth" s__law_worth fa fd) (TX : Tx mg)
    (C__law_draw : Cal P w K mg base CX0 2 "_law_draw" ["well", "many"] (sp__law_draw K)) :
    FnOk P w K mg base CX0 3 fa fd ["well", "some"] (sp__law_worth K) := by
  refine F.ok sc__law_worth (fun vs H Q E h => ?_) (fun cdv A outer s H vs Q E hr h => ?_)
  · obtain ⟨w0, v, l, n, ns, rfl, lv, mw, hw, hv, hn, hl, q⟩ := h
    rfl
  · obtain ⟨w0, v, l, n, ns, rfl, lv, mw, hw, hv, hn, hl, q⟩ := h
    have hu := hu_of hr
    have hu64 := hr.units
    have hu65 := hu65_of hr
    refine ⟨_, (pss_cons (ps_set (i := 2) sc__law_worth.nd rfl (Or.inl rfl) (pe_cal C__law_draw (hr.mono (by decide)) (by rfl) pass0 (pa_cons (pv 0) (pa_cons pe_int pa_nil))))
  (pss_cons (ps_if (PW.pt (pw_and (pt_cmpR op_lt (pv 2) pe_int (nomark _)) (pw_and1 (pt_cmpR (op_neD hu64) (pv 1) (pe_lst pa_nil) (nomark _))))) (pss_one (ps_ret (pe_ix ix_list (pv 1) (pe_cal C__law_draw (hr.mono (by decide)) (by rfl) pass0 (pa_cons (pv 0) (pa_cons (pe_callB call_len (by rfl) TX.n_len (by decide +kernel) (pa_cons (pv 1) pa_nil)) pa_nil))) (fun _ _ => rfl)))) pss_nil)
  (pss_cons (ps_set (i := 3) sc__law_worth.nd rfl (Or.inl rfl) (pe_cal C__law_draw (hr.mono (by decide)) (by rfl) pass0 (pa_cons (pv 0) (pa_cons (pe_ix ix_list (pe_lst (pa_cons pe_int (pa_cons (pe_op op_pow pe_int pe_int) pa_nil))) (pe_cal C__law_draw (hr.mono (by decide)) (by rfl) pass0 (pa_cons (pv 0) (pa_cons pe_int pa_nil))) (fun _ _ => rfl)) pa_nil))))
  (pss_cons (ps_if (pt_cmpR op_eq (pv 2) pe_int (nomark _)) (pss_one (ps_ret (pe_tup (pa_cons pe_str (pa_cons (pv 3) pa_nil))))) pss_nil)
  (pss_one (ps_ret (pe_tup (pa_cons pe_str (pa_cons (pe_op op_mul (pv 3) (pe_op op_sub pe_int (pe_op op_mul pe_int (pe_cal C__law_draw (hr.mono (by decide)) (by rfl) pass0 (pa_cons (pv 0) (pa_cons pe_int pa_nil)))))) pa_nil))))))))), ?_⟩
    refine r_begin (show L2.start _ _ = [some _, some _, none, none] from rfl) ?_
    try dsimp only [cxOf]
    walk_at "rr"
    refine ⟨w0, 5, n, rfl, hw, by decide, by decide, by omega, fun way H1 y0 y1 b1 W1 => ?_⟩
    have f1 := b1.fr lv mw W1.lv
    walk_at "rr"
    refine r_d (fun hc => ?_) (fun hc => ?_)
    · walk_at "rr"
      refine r_lstA (as := ([] : List Wo)) f1.live .nil (by decide) fun e H2 he s2 h2 => ?_
      have f2 := f1.trans (.of f1.live s2)
      have b2 := b1.trans (But.of s2)
      have W2 := W1.same s2
      walk_at "rr"
      refine r_neA (at_sub (f2.at_ hv)) (at_sub h2) ?_
      walk_at "rr"
      refine r_nd (fun hn0 => ?_) (fun hn0 => ?_)
      · walk_at "rr"
        have : 0 < l.length := List.length_pos_iff.mpr hn0
        refine r_lenA (f2.at_ hv) ?_
        walk_at "rr"
        refine ⟨w0, _, _, rfl, W2, by omega, by omega, by omega, fun i H3 i0 i1 b3 W3 => ?_⟩
        have f3 := f2.trans (b3.fr f2.live mw W3.lv)
        walk_at "rr"
        obtain ⟨a, ea⟩ := atI_there (xs := l) i0 (by omega)
        refine r_xl (f3.at_ hv) ea fun x hx => ?_
        walk_at "rr"
        exact q x a H3 f3 (b2.trans b3) (W3.mono (by omega)) hx (.inl (atI_mem' ea))
      · walk_at "rr"
        refine r_lstA (xs := [.int 4, .int (10 ^ Int.toNat 30)]) (as := [4, 10 ^ Int.toNat 30]) f2.live (ats_of_int (l := [4, 10 ^ Int.toNat 30])) (by show 2 ≤ 100000; decide) fun e3 H3 he3 s3 h3 => ?_
        have f3 := f2.trans (.of f2.live s3)
        have b3 := b2.trans (But.of s3)
        walk_at "rr"
        refine ⟨w0, 2, _, rfl, W2.same s3, by decide, by decide, by omega, fun i H4 i0 i1 b4 W4 => ?_⟩
        have g4 := b4.fr f3.live mw W4.lv
        obtain ⟨m, em, hm⟩ := pick2 (a := (4 : Int)) (b := 10 ^ Int.toNat 30) i0 i1
        walk_at "rr"
        refine r_xl (g4.at_ h3) em fun x hx => ?_
        obtain rfl : x = .int m := hx
        rw [e30] at hm
        have hm2 : m.natAbs < 2 ^ 220 := by rcases hm with ⟨_, rfl⟩ | ⟨_, rfl⟩ <;> decide
        walk_at "rr"
        refine ⟨w0, m, _, rfl, W4, by omega, hm2, by omega, fun num H5 n0 n1 b5 W5 => ?_⟩
        have f5 := (f3.trans g4).trans (b5.fr g4.live mw W5.lv)
        have bb5 := (b3.trans b4).trans b5
        walk_at "rr"
        refine r_d (fun c3 => ?_) (fun c3 => ?_)
        · walk_at "rr"
          refine r_tupA2 (x := .str "at") (y := .int num) (ab := (("at", num) : Wo)) f5.live (at_str ok_at) at_int fun p H6 hp s6 h6 => ?_
          walk_at "rr"
          exact q _ _ H6 (f5.trans (.of f5.live s6)) (bb5.trans (But.of s6)) ((W5.same s6).mono (by omega)) h6 (.inr ⟨isW_at n0, isT_at⟩)
        · walk_at "rr"
          refine ⟨w0, 2, _, rfl, W5, by decide, by decide, by omega, fun two H6 t0 t1 b6 W6 => ?_⟩
          have f6 := f5.trans (b6.fr f5.live mw W6.lv)
          walk_at "rr"
          refine r_tupA2 (x := .str "num") (y := .int (num * (1 - 2 * two))) (ab := (("num", num * (1 - 2 * two)) : Wo)) f6.live (at_str ok_num) at_int fun p H7 hp s7 h7 => ?_
          exact q _ _ H7 (f6.trans (.of f6.live s7)) ((bb5.trans b6).trans (But.of s7)) ((W6.same s7).mono (by omega)) h7 (.inr ⟨isW_num, isT_num⟩)
    · obtain ⟨H2, rfl⟩ : ∃ z, z = H1 := ⟨_, rfl⟩
      have f2 := f1
      have b2 := b1
      have W2 := W1
      walk_at "rr"
      refine r_lstA (xs := [.int 4, .int (10 ^ Int.toNat 30)]) (as := [4, 10 ^ Int.toNat 30]) f2.live (ats_of_int (l := [4, 10 ^ Int.toNat 30])) (by show 2 ≤ 100000; decide) fun e3 H3 he3 s3 h3 => ?_
      have f3 := f2.trans (.of f2.live s3)
      have b3 := b2.trans (But.of s3)
      walk_at "rr"
      refine ⟨w0, 2, _, rfl, W2.same s3, by decide, by decide, by omega, fun i H4 i0 i1 b4 W4 => ?_⟩
      have g4 := b4.fr f3.live mw W4.lv
      obtain ⟨m, em, hm⟩ := pick2 (a := (4 : Int)) (b := 10 ^ Int.toNat 30) i0 i1
      walk_at "rr"
      refine r_xl (g4.at_ h3) em fun x hx => ?_
      obtain rfl : x = .int m := hx
      rw [e30] at hm
      have hm2 : m.natAbs < 2 ^ 220 := by rcases hm with ⟨_, rfl⟩ | ⟨_, rfl⟩ <;> decide
      walk_at "rr"
      refine ⟨w0, m, _, rfl, W4, by omega, hm2, by omega, fun num H5 n0 n1 b5 W5 => ?_⟩
      have f5 := (f3.trans g4).trans (b5.fr g4.live mw W5.lv)
      have bb5 := (b3.trans b4).trans b5
      walk_at "rr"
      refine r_d (fun c3 => ?_) (fun c3 => ?_)
      · walk_at "rr"
        refine r_tupA2 (x := .str "at") (y := .int num) (ab := (("at", num) : Wo)) f5.live (at_str ok_at) at_int fun p H6 hp s6 h6 => ?_
        walk_at "rr"
        exact q _ _ H6 (f5.trans (.of f5.live s6)) (bb5.trans (But.of s6)) ((W5.same s6).mono (by omega)) h6 (.inr ⟨isW_at n0, isT_at⟩)
      · walk_at "rr"
        refine ⟨w0, 2, _, rfl, W5, by decide, by decide, by omega, fun two H6 t0 t1 b6 W6 => ?_⟩
        have f6 := f5.trans (b6.fr f5.live mw W6.lv)
        walk_at "rr"
        refine r_tupA2 (x := .str "num") (y := .int (num * (1 - 2 * two))) (ab := (("num", num * (1 - 2 * two)) : Wo)) f6.live (at_str ok_num) at_int fun p H7 hp s7 h7 => ?_
        exact q _ _ H7 (f6.trans (.of f6.live s7)) ((bb5.trans b6).trans (But.of s7)) ((W6.same s7).mono (by omega)) h7 (.inr ⟨isW_num, isT_num⟩)
/-! ### _law_name -/
abbrev s__law_name : Stmt := top 31
theorem sc__law_name : FnScope ["well", "last", "letters", "way", "letter", "at", "k"] ["well", "last"] (defScope s__law_name) := ⟨rfl, rfl, rfl, by decide +kernel, rfl, by decide +kernel, by decide +kernel⟩
def sp__law_name (_ : PySem.W.Frag) : Sp := fun vs H Q _ => ∃ (w : Addr) (z : Str) (n : Nat) (ns : List Addr), vs = [.ref w, .str z] ∧ Live ns H ∧ w ∈ ns ∧ WellAt H w n ∧ n + 30 < 1000000000 ∧ (isName z = true ∨ z = "") ∧ ∀ (r : Str) H', Fr ns H ns H' → But w H H' → WellAt H' w (n + 30) → isName r = true → Q (.str r) H'
theorem ok__law_name {fa : Addr} {fd : FuncData} (F : Fun K "_law_name" "_law_name" s__law_name fa fd) (TX : Tx mg)
    (C__law_draw : Cal P w K mg base CX0 2 "_law_draw" ["well", "many"] (sp__law_draw K)) :
    FnOk P w K mg base CX0 3 fa fd ["well", "last"] (sp__law_name K) := by
  refine F.ok sc__law_name (fun vs H Q E h => ?_) (fun cdv A outer s H vs Q E hr h => ?_)
  · obtain ⟨w0, z, n, ns, rfl, lv, mw, hw, hn, hz, q⟩ := h
    rfl
  · obtain ⟨w0, z, n, ns, rfl, lv, mw, hw, hn, hz, q⟩ := h
    have hu := hu_of hr
    have hu64 := hr.units
    have hu65 := hu65_of hr
    have hz8 : (tl z).length ≤ 8 ∧ ∀ c ∈ tl z, c ∈ lets := by
      rcases hz with h | rfl
      · exact (isName_iff.mp h).2
      · exact ⟨by decide +kernel, by decide +kernel⟩
    have lz : z.length = (tl z).length := len_tl z
    have l26 : (Str.ofString "abcdefghijklmnopqrstuvwxyz").length = 26 := by decide +kernel
    refine ⟨_, (pss_cons (ps_set (i := 2) sc__law_name.nd rfl (Or.inr rfl) pe_str)
  (pss_cons (ps_set (i := 3) sc__law_name.nd rfl (Or.inl rfl) (pe_cal C__law_draw (hr.mono (by decide)) (by rfl) pass0 (pa_cons (pv 0) (pa_cons pe_int pa_nil))))
  (pss_cons (ps_set (i := 4) sc__law_name.nd rfl (Or.inl rfl) (pe_ix ix_str (pv 2) (pe_cal C__law_draw (hr.mono (by decide)) (by rfl) pass0 (pa_cons (pv 0) (pa_cons pe_int pa_nil))) (fun _ _ => rfl)))
  (pss_cons (ps_if (PW.pt (pw_and (pt_cmpR op_eq (pv 3) pe_int (nomark _)) (pw_and1 (pt_chain op_lt op_lt pe_int (pe_callB call_len (by rfl) TX.n_len (by decide +kernel) (pa_cons (pv 1) pa_nil)) pe_int)))) (pss_one (ps_ret (pe_op op_add_str (pv 1) (pv 4)))) pss_nil)
  (pss_cons (ps_if (PW.pt (pw_and (pt_cmpR op_eq (pv 3) pe_int (nomark _)) (pw_and1 (pt_cmpR op_ne (pv 1) pe_str (nomark _))))) (pss_cons (ps_set (i := 5) sc__law_name.nd rfl (Or.inl rfl) (pe_cal C__law_draw (hr.mono (by decide)) (by rfl) pass0 (pa_cons (pv 0) (pa_cons (pe_callB call_len (by rfl) TX.n_len (by decide +kernel) (pa_cons (pv 1) pa_nil)) pa_nil))))
  (pss_one (ps_ret (pe_op op_add_str (pe_op op_add_str (pe_slice sl_str (pv 1) po_none (po_some (pv 5))) (pv 4)) (pe_slice sl_str (pv 1) (po_some (pe_op op_add (pv 5) pe_int)) po_none))))) pss_nil)
  (pss_one (ps_ret (pe_join pe_str (pe_lc (own := [("k", 6)]) (g := gName 6) (tt := tYes) rfl sc__law_name.nd (pi_range1 (by rfl) TX.range (pa_cons (pe_op op_add pe_int (pe_cal C__law_draw (hr.mono (by decide)) (by rfl) pass0 (pa_cons (pv 0) (pa_cons pe_int pa_nil)))) pa_nil)) (blkOk_by (own := [("k", 6)]) (N := ["well", "last", "letters", "way", "letter", "at", "k"]) (sc := defScope s__law_name) (by decide +kernel)) (fun _ _ _ _ _ => (pg_name (i := 6) sc__law_name.nd rfl (Or.inl rfl))) (fun _ _ _ _ _ => pts_nil) (fun _ _ _ _ _ => (pe_ix ix_str (pv 2) (pe_cal C__law_draw (hr.mono (by decide)) (by rfl) pass0 (pa_cons (pv 0) (pa_cons pe_int pa_nil))) (fun _ _ => rfl)))))))))))), ?_⟩
    refine r_begin (show L2.start _ _ = [some _, some _, none, none, none, none, none] from rfl) ?_
    try dsimp only [cxOf]
    walk_at "rr"
    refine ⟨w0, 3, n, rfl, hw, by decide, by decide, by omega, fun way H1 y0 y1 b1 W1 => ?_⟩
    have f1 := b1.fr lv mw W1.lv
    walk_at "rr"
    refine ⟨w0, 26, _, rfl, W1, by decide, by decide, by omega, fun i H2 i0 i1 b2 W2 => ?_⟩
    have f2 := f1.trans (b2.fr f1.live mw W2.lv)
    have b02 := b1.trans b2
    obtain ⟨c, ec⟩ := atI_there (xs := lets) i0 (by show i < ((lets.length : Nat) : Int); rw [show lets.length = 26 by decide +kernel]; omega)
    have mc := atI_mem' ec
    walk_at "rr"
    refine r_ixS (by rw [l26]; decide) ec ?_
    walk_at "rr"
    refine r_d (fun hw1 => ?_) (fun hw1 => ?_)
    · walk_at "rr"
      refine r_lenS (y := z) (sz (by omega)) ?_
      walk_at "rr"
      refine r_d (fun h0 => ?_) (fun h0 => ?_)
      · walk_at "rr"
        refine r_d (fun h8 => ?_) (fun h8 => ?_)
        · walk_at "rr"
          refine ⟨z, ⟨#[c]⟩, rfl, rfl, sz (by show z.length + 1 ≤ _; omega), ?_⟩
          refine q _ H2 f2 b02 (W2.mono (by omega)) (isName_iff.mpr ?_)
          rw [TL.tl_append, show tl (⟨#[c]⟩ : Str) = [c] from rfl]
          refine ⟨by simp only [List.length_append, List.length_cons, List.length_nil, List.length_take, List.length_drop]; omega, by simp only [List.length_append, List.length_cons, List.length_nil, List.length_take, List.length_drop]; omega, fun d m => ?_⟩
          rcases List.mem_append.mp m with m | m
          · exact hz8.2 d m
          · rw [List.mem_singleton.mp m]
            exact mc
        · walk_at "rr"
          refine r_d (fun hw2 => ?_) (fun hw2 => ?_)
          · walk_at "rr"
            refine r_nd (fun hz0 => ?_) (fun hz0 => ?_)
            · have h1 := isName_iff.mp (hz.resolve_right hz0)
              walk_at "rr"
              refine r_lenS (y := z) (sz (by omega)) ?_
              walk_at "rr"
              refine ⟨w0, _, _, rfl, W2, by omega, by omega, by omega, fun at_ H3 a0 a1 b3 W3 => ?_⟩
              have f3 := f2.trans (b3.fr f2.live mw W3.lv)
              obtain ⟨k, rfl⟩ : ∃ k : Nat, at_ = (k : Int) := ⟨at_.toNat, by omega⟩
              have e1 : tl (cutS z none (some (k : Int))) = (tl z).take k := by
                have := cutL_to (tl z) k
                rw [← this, show tl z = z.cps.toList from rfl]
                unfold cutS cutL
                rw [show z.length = z.cps.toList.length from len_tl z]
              have e2 : tl (cutS z (some ((k : Int) + 1)) none) = (tl z).drop (k + 1) := by
                have := cutL_from (tl z) (k + 1)
                rw [← this, show tl z = z.cps.toList from rfl]
                unfold cutS cutL
                rw [show z.length = z.cps.toList.length from len_tl z]
                rfl
              walk_at "rr"
              refine r_slS (sz (by omega)) ?_
              walk_at "rr"
              have g1 : (cutS z none (some (k : Int))).length ≤ 8 := by rw [len_tl, e1, List.length_take]; omega
              have g2 : (cutS z (some ((k : Int) + 1)) none).length ≤ 8 := by rw [len_tl, e2, List.length_drop]; omega
              refine ⟨_, ⟨#[c]⟩, rfl, rfl, sz (by show _ + 1 ≤ _; omega), ?_⟩
              walk_at "rr"
              refine r_slS (sz (by omega)) ?_
              walk_at "rr"
              have g3 : (cutS z none (some (k : Int)) ++ (⟨#[c]⟩ : Str)).length ≤ 9 := by
                rw [len_app']
                show _ + 1 ≤ 9
                omega
              refine ⟨_, _, rfl, rfl, sz (by omega), ?_⟩
              refine q _ H3 f3 (b02.trans b3) (W3.mono (by omega)) (isName_iff.mpr ?_)
              rw [TL.tl_append, TL.tl_append, e1, e2, show tl (⟨#[c]⟩ : Str) = [c] from rfl]
              refine ⟨by simp only [List.length_append, List.length_cons, List.length_nil, List.length_take, List.length_drop]; omega, by simp only [List.length_append, List.length_cons, List.length_nil, List.length_take, List.length_drop]; omega, fun d m => ?_⟩
              rcases List.mem_append.mp m with m | m
              · rcases List.mem_append.mp m with m | m
                · exact hz8.2 d (List.mem_of_mem_take m)
                · rw [List.mem_singleton.mp m]
                  exact mc
              · exact hz8.2 d (List.mem_of_mem_drop m)
            · walk_at "rr"
              refine ⟨w0, 8, _, rfl, W2, by decide, by decide, by omega, fun m H3 m0 m1 b3 W3 => ?_⟩
              have f3 := f2.trans (b3.fr f2.live mw W3.lv)
              have b03 := b02.trans b3
              walk_at "rr"
              refine CR (γ := Str) f3.live (fun j H' => But w0 H3 H' ∧ WellAt H' w0 (n + 1 + 1 + 1 + j)) (fun j zs => zs.length = j ∧ ∀ s ∈ zs, ∃ c ∈ lets, s = (⟨#[c]⟩ : Str)) ⟨rfl, fun s m => by cases m⟩ ⟨But.refl, W3⟩ (fun j D o H' hD nD e => est_well hD (fun e => nD (e ▸ mw)) e) ?_ ?_
              · rintro D j zs H4 hj k
                obtain ⟨kb, kw⟩ := k.ex
                obtain ⟨kl, km⟩ := k.r
                walk_at "rr"
                refine ⟨w0, 26, _, rfl, kw, by decide, by decide, by omega, fun i2 H5 j0 j1 b5 W5 => ?_⟩
                obtain ⟨c2, ec2⟩ := atI_there (xs := lets) j0 (by show i2 < ((lets.length : Nat) : Int); rw [show lets.length = 26 by decide +kernel]; omega)
                have mc2 := atI_mem' ec2
                walk_at "rr"
                refine r_ixS (by rw [l26]; decide) ec2 ?_
                refine k.put (c := (⟨#[c2]⟩ : Str)) (b5.fr (k.lv.sub fun _ m => List.mem_cons_of_mem _ m) mw W5.lv) ⟨kb.trans b5, W5⟩ (at_str (by
                  have b : ∀ c ∈ lets, PyData.strOk (⟨#[c]⟩ : Str) = true := by decide +kernel
                  exact b c2 mc2)) ⟨by rw [List.length_append, kl]; rfl, fun s ms => ?_⟩ (by omega) (fun o e => est_well k.D0 (fun e => k.out (e ▸ mw)) e)
                rcases List.mem_append.mp ms with ms | ms
                · exact km s ms
                · exact ⟨c2, mc2, List.mem_singleton.mp ms⟩
              · rintro D H4 zs hD f4 ⟨kb, kw⟩ ⟨kl, km⟩ _ ha
                obtain ⟨p, xs, e, ep, rx⟩ := ha
                cases e
                obtain ⟨nm, sm⟩ := isName_join (zs := zs) (by omega) (by omega) km
                walk_at "rr"
                refine ⟨"", D, zs, rfl, rfl, .inl (.inl (.inl (by rw [← ats_str rx]; exact (of_del ep).1))), ?_, ?_⟩
                · rw [sm, show (Str.ofString "").length = 0 from rfl]
                  omega
                · exact q _ H4 (f3.trans f4) (b03.trans kb) (kw.mono (by omega)) nm
          · walk_at "rr"
            refine ⟨w0, 8, _, rfl, W2, by decide, by decide, by omega, fun m H3 m0 m1 b3 W3 => ?_⟩
            have f3 := f2.trans (b3.fr f2.live mw W3.lv)
            have b03 := b02.trans b3
            walk_at "rr"
            refine CR (γ := Str) f3.live (fun j H' => But w0 H3 H' ∧ WellAt H' w0 (n + 1 + 1 + 1 + j)) (fun j zs => zs.length = j ∧ ∀ s ∈ zs, ∃ c ∈ lets, s = (⟨#[c]⟩ : Str)) ⟨rfl, fun s m => by cases m⟩ ⟨But.refl, W3⟩ (fun j D o H' hD nD e => est_well hD (fun e => nD (e ▸ mw)) e) ?_ ?_
            · rintro D j zs H4 hj k
              obtain ⟨kb, kw⟩ := k.ex
              obtain ⟨kl, km⟩ := k.r
              walk_at "rr"
              refine ⟨w0, 26, _, rfl, kw, by decide, by decide, by omega, fun i2 H5 j0 j1 b5 W5 => ?_⟩
              obtain ⟨c2, ec2⟩ := atI_there (xs := lets) j0 (by show i2 < ((lets.length : Nat) : Int); rw [show lets.length = 26 by decide +kernel]; omega)
              have mc2 := atI_mem' ec2
              walk_at "rr"
              refine r_ixS (by rw [l26]; decide) ec2 ?_
              refine k.put (c := (⟨#[c2]⟩ : Str)) (b5.fr (k.lv.sub fun _ m => List.mem_cons_of_mem _ m) mw W5.lv) ⟨kb.trans b5, W5⟩ (at_str (by
                have b : ∀ c ∈ lets, PyData.strOk (⟨#[c]⟩ : Str) = true := by decide +kernel
                exact b c2 mc2)) ⟨by rw [List.length_append, kl]; rfl, fun s ms => ?_⟩ (by omega) (fun o e => est_well k.D0 (fun e => k.out (e ▸ mw)) e)
              rcases List.mem_append.mp ms with ms | ms
              · exact km s ms
              · exact ⟨c2, mc2, List.mem_singleton.mp ms⟩
            · rintro D H4 zs hD f4 ⟨kb, kw⟩ ⟨kl, km⟩ _ ha
              obtain ⟨p, xs, e, ep, rx⟩ := ha
              cases e
              obtain ⟨nm, sm⟩ := isName_join (zs := zs) (by omega) (by omega) km
              walk_at "rr"
              refine ⟨"", D, zs, rfl, rfl, .inl (.inl (.inl (by rw [← ats_str rx]; exact (of_del ep).1))), ?_, ?_⟩
              · rw [sm, show (Str.ofString "").length = 0 from rfl]
                omega
              · exact q _ H4 (f3.trans f4) (b03.trans kb) (kw.mono (by omega)) nm
      · walk_at "rr"
        refine r_d (fun hw2 => ?_) (fun hw2 => ?_)
        · walk_at "rr"
          refine r_nd (fun hz0 => ?_) (fun hz0 => ?_)
          · have h1 := isName_iff.mp (hz.resolve_right hz0)
            walk_at "rr"
            refine r_lenS (y := z) (sz (by omega)) ?_
            walk_at "rr"
            refine ⟨w0, _, _, rfl, W2, by omega, by omega, by omega, fun at_ H3 a0 a1 b3 W3 => ?_⟩
            have f3 := f2.trans (b3.fr f2.live mw W3.lv)
            obtain ⟨k, rfl⟩ : ∃ k : Nat, at_ = (k : Int) := ⟨at_.toNat, by omega⟩
            have e1 : tl (cutS z none (some (k : Int))) = (tl z).take k := by
              have := cutL_to (tl z) k
              rw [← this, show tl z = z.cps.toList from rfl]
              unfold cutS cutL
              rw [show z.length = z.cps.toList.length from len_tl z]
            have e2 : tl (cutS z (some ((k : Int) + 1)) none) = (tl z).drop (k + 1) := by
              have := cutL_from (tl z) (k + 1)
              rw [← this, show tl z = z.cps.toList from rfl]
              unfold cutS cutL
              rw [show z.length = z.cps.toList.length from len_tl z]
              rfl
            walk_at "rr"
            refine r_slS (sz (by omega)) ?_
            walk_at "rr"
            have g1 : (cutS z none (some (k : Int))).length ≤ 8 := by rw [len_tl, e1, List.length_take]; omega
            have g2 : (cutS z (some ((k : Int) + 1)) none).length ≤ 8 := by rw [len_tl, e2, List.length_drop]; omega
            refine ⟨_, ⟨#[c]⟩, rfl, rfl, sz (by show _ + 1 ≤ _; omega), ?_⟩
            walk_at "rr"
            refine r_slS (sz (by omega)) ?_
            walk_at "rr"
            have g3 : (cutS z none (some (k : Int)) ++ (⟨#[c]⟩ : Str)).length ≤ 9 := by
              rw [len_app']
              show _ + 1 ≤ 9
              omega
            refine ⟨_, _, rfl, rfl, sz (by omega), ?_⟩
            refine q _ H3 f3 (b02.trans b3) (W3.mono (by omega)) (isName_iff.mpr ?_)
            rw [TL.tl_append, TL.tl_append, e1, e2, show tl (⟨#[c]⟩ : Str) = [c] from rfl]
            refine ⟨by simp only [List.length_append, List.length_cons, List.length_nil, List.length_take, List.length_drop]; omega, by simp only [List.length_append, List.length_cons, List.length_nil, List.length_take, List.length_drop]; omega, fun d m => ?_⟩
            rcases List.mem_append.mp m with m | m
            · rcases List.mem_append.mp m with m | m
              · exact hz8.2 d (List.mem_of_mem_take m)
              · rw [List.mem_singleton.mp m]
                exact mc
            · exact hz8.2 d (List.mem_of_mem_drop m)
          · walk_at "rr"
            refine ⟨w0, 8, _, rfl, W2, by decide, by decide, by omega, fun m H3 m0 m1 b3 W3 => ?_⟩
            have f3 := f2.trans (b3.fr f2.live mw W3.lv)
            have b03 := b02.trans b3
            walk_at "rr"
            refine CR (γ := Str) f3.live (fun j H' => But w0 H3 H' ∧ WellAt H' w0 (n + 1 + 1 + 1 + j)) (fun j zs => zs.length = j ∧ ∀ s ∈ zs, ∃ c ∈ lets, s = (⟨#[c]⟩ : Str)) ⟨rfl, fun s m => by cases m⟩ ⟨But.refl, W3⟩ (fun j D o H' hD nD e => est_well hD (fun e => nD (e ▸ mw)) e) ?_ ?_
            · rintro D j zs H4 hj k
              obtain ⟨kb, kw⟩ := k.ex
              obtain ⟨kl, km⟩ := k.r
              walk_at "rr"
              refine ⟨w0, 26, _, rfl, kw, by decide, by decide, by omega, fun i2 H5 j0 j1 b5 W5 => ?_⟩
              obtain ⟨c2, ec2⟩ := atI_there (xs := lets) j0 (by show i2 < ((lets.length : Nat) : Int); rw [show lets.length = 26 by decide +kernel]; omega)
              have mc2 := atI_mem' ec2
              walk_at "rr"
              refine r_ixS (by rw [l26]; decide) ec2 ?_
              refine k.put (c := (⟨#[c2]⟩ : Str)) (b5.fr (k.lv.sub fun _ m => List.mem_cons_of_mem _ m) mw W5.lv) ⟨kb.trans b5, W5⟩ (at_str (by
                have b : ∀ c ∈ lets, PyData.strOk (⟨#[c]⟩ : Str) = true := by decide +kernel
                exact b c2 mc2)) ⟨by rw [List.length_append, kl]; rfl, fun s ms => ?_⟩ (by omega) (fun o e => est_well k.D0 (fun e => k.out (e ▸ mw)) e)
              rcases List.mem_append.mp ms with ms | ms
              · exact km s ms
              · exact ⟨c2, mc2, List.mem_singleton.mp ms⟩
            · rintro D H4 zs hD f4 ⟨kb, kw⟩ ⟨kl, km⟩ _ ha
              obtain ⟨p, xs, e, ep, rx⟩ := ha
              cases e
              obtain ⟨nm, sm⟩ := isName_join (zs := zs) (by omega) (by omega) km
              walk_at "rr"
              refine ⟨"", D, zs, rfl, rfl, .inl (.inl (.inl (by rw [← ats_str rx]; exact (of_del ep).1))), ?_, ?_⟩
              · rw [sm, show (Str.ofString "").length = 0 from rfl]
                omega
              · exact q _ H4 (f3.trans f4) (b03.trans kb) (kw.mono (by omega)) nm
        · walk_at "rr"
          refine ⟨w0, 8, _, rfl, W2, by decide, by decide, by omega, fun m H3 m0 m1 b3 W3 => ?_⟩
          have f3 := f2.trans (b3.fr f2.live mw W3.lv)
          have b03 := b02.trans b3
          walk_at "rr"
          refine CR (γ := Str) f3.live (fun j H' => But w0 H3 H' ∧ WellAt H' w0 (n + 1 + 1 + 1 + j)) (fun j zs => zs.length = j ∧ ∀ s ∈ zs, ∃ c ∈ lets, s = (⟨#[c]⟩ : Str)) ⟨rfl, fun s m => by cases m⟩ ⟨But.refl, W3⟩ (fun j D o H' hD nD e => est_well hD (fun e => nD (e ▸ mw)) e) ?_ ?_
          · rintro D j zs H4 hj k
            obtain ⟨kb, kw⟩ := k.ex
            obtain ⟨kl, km⟩ := k.r
            walk_at "rr"
            refine ⟨w0, 26, _, rfl, kw, by decide, by decide, by omega, fun i2 H5 j0 j1 b5 W5 => ?_⟩
            obtain ⟨c2, ec2⟩ := atI_there (xs := lets) j0 (by show i2 < ((lets.length : Nat) : Int); rw [show lets.length = 26 by decide +kernel]; omega)
            have mc2 := atI_mem' ec2
            walk_at "rr"
            refine r_ixS (by rw [l26]; decide) ec2 ?_
            refine k.put (c := (⟨#[c2]⟩ : Str)) (b5.fr (k.lv.sub fun _ m => List.mem_cons_of_mem _ m) mw W5.lv) ⟨kb.trans b5, W5⟩ (at_str (by
              have b : ∀ c ∈ lets, PyData.strOk (⟨#[c]⟩ : Str) = true := by decide +kernel
              exact b c2 mc2)) ⟨by rw [List.length_append, kl]; rfl, fun s ms => ?_⟩ (by omega) (fun o e => est_well k.D0 (fun e => k.out (e ▸ mw)) e)
            rcases List.mem_append.mp ms with ms | ms
            · exact km s ms
            · exact ⟨c2, mc2, List.mem_singleton.mp ms⟩
          · rintro D H4 zs hD f4 ⟨kb, kw⟩ ⟨kl, km⟩ _ ha
            obtain ⟨p, xs, e, ep, rx⟩ := ha
            cases e
            obtain ⟨nm, sm⟩ := isName_join (zs := zs) (by omega) (by omega) km
            walk_at "rr"
            refine ⟨"", D, zs, rfl, rfl, .inl (.inl (.inl (by rw [← ats_str rx]; exact (of_del ep).1))), ?_, ?_⟩
            · rw [sm, show (Str.ofString "").length = 0 from rfl]
              omega
            · exact q _ H4 (f3.trans f4) (b03.trans kb) (kw.mono (by omega)) nm
    · walk_at "rr"
      refine r_d (fun hw2 => ?_) (fun hw2 => ?_)
      · walk_at "rr"
        refine r_nd (fun hz0 => ?_) (fun hz0 => ?_)
        · have h1 := isName_iff.mp (hz.resolve_right hz0)
          walk_at "rr"
          refine r_lenS (y := z) (sz (by omega)) ?_
          walk_at "rr"
          refine ⟨w0, _, _, rfl, W2, by omega, by omega, by omega, fun at_ H3 a0 a1 b3 W3 => ?_⟩
          have f3 := f2.trans (b3.fr f2.live mw W3.lv)
          obtain ⟨k, rfl⟩ : ∃ k : Nat, at_ = (k : Int) := ⟨at_.toNat, by omega⟩
          have e1 : tl (cutS z none (some (k : Int))) = (tl z).take k := by
            have := cutL_to (tl z) k
            rw [← this, show tl z = z.cps.toList from rfl]
            unfold cutS cutL
            rw [show z.length = z.cps.toList.length from len_tl z]
          have e2 : tl (cutS z (some ((k : Int) + 1)) none) = (tl z).drop (k + 1) := by
            have := cutL_from (tl z) (k + 1)
            rw [← this, show tl z = z.cps.toList from rfl]
            unfold cutS cutL
            rw [show z.length = z.cps.toList.length from len_tl z]
            rfl
          walk_at "rr"
          refine r_slS (sz (by omega)) ?_
          walk_at "rr"
          have g1 : (cutS z none (some (k : Int))).length ≤ 8 := by rw [len_tl, e1, List.length_take]; omega
          have g2 : (cutS z (some ((k : Int) + 1)) none).length ≤ 8 := by rw [len_tl, e2, List.length_drop]; omega
          refine ⟨_, ⟨#[c]⟩, rfl, rfl, sz (by show _ + 1 ≤ _; omega), ?_⟩
          walk_at "rr"
          refine r_slS (sz (by omega)) ?_
          walk_at "rr"
          have g3 : (cutS z none (some (k : Int)) ++ (⟨#[c]⟩ : Str)).length ≤ 9 := by
            rw [len_app']
            show _ + 1 ≤ 9
            omega
          refine ⟨_, _, rfl, rfl, sz (by omega), ?_⟩
          refine q _ H3 f3 (b02.trans b3) (W3.mono (by omega)) (isName_iff.mpr ?_)
          rw [TL.tl_append, TL.tl_append, e1, e2, show tl (⟨#[c]⟩ : Str) = [c] from rfl]
          refine ⟨by simp only [List.length_append, List.length_cons, List.length_nil, List.length_take, List.length_drop]; omega, by simp only [List.length_append, List.length_cons, List.length_nil, List.length_take, List.length_drop]; omega, fun d m => ?_⟩
          rcases List.mem_append.mp m with m | m
          · rcases List.mem_append.mp m with m | m
            · exact hz8.2 d (List.mem_of_mem_take m)
            · rw [List.mem_singleton.mp m]
              exact mc
          · exact hz8.2 d (List.mem_of_mem_drop m)
        · walk_at "rr"
          refine ⟨w0, 8, _, rfl, W2, by decide, by decide, by omega, fun m H3 m0 m1 b3 W3 => ?_⟩
          have f3 := f2.trans (b3.fr f2.live mw W3.lv)
          have b03 := b02.trans b3
          walk_at "rr"
          refine CR (γ := Str) f3.live (fun j H' => But w0 H3 H' ∧ WellAt H' w0 (n + 1 + 1 + 1 + j)) (fun j zs => zs.length = j ∧ ∀ s ∈ zs, ∃ c ∈ lets, s = (⟨#[c]⟩ : Str)) ⟨rfl, fun s m => by cases m⟩ ⟨But.refl, W3⟩ (fun j D o H' hD nD e => est_well hD (fun e => nD (e ▸ mw)) e) ?_ ?_
          · rintro D j zs H4 hj k
            obtain ⟨kb, kw⟩ := k.ex
            obtain ⟨kl, km⟩ := k.r
            walk_at "rr"
            refine ⟨w0, 26, _, rfl, kw, by decide, by decide, by omega, fun i2 H5 j0 j1 b5 W5 => ?_⟩
            obtain ⟨c2, ec2⟩ := atI_there (xs := lets) j0 (by show i2 < ((lets.length : Nat) : Int); rw [show lets.length = 26 by decide +kernel]; omega)
            have mc2 := atI_mem' ec2
            walk_at "rr"
            refine r_ixS (by rw [l26]; decide) ec2 ?_
            refine k.put (c := (⟨#[c2]⟩ : Str)) (b5.fr (k.lv.sub fun _ m => List.mem_cons_of_mem _ m) mw W5.lv) ⟨kb.trans b5, W5⟩ (at_str (by
              have b : ∀ c ∈ lets, PyData.strOk (⟨#[c]⟩ : Str) = true := by decide +kernel
              exact b c2 mc2)) ⟨by rw [List.length_append, kl]; rfl, fun s ms => ?_⟩ (by omega) (fun o e => est_well k.D0 (fun e => k.out (e ▸ mw)) e)
            rcases List.mem_append.mp ms with ms | ms
            · exact km s ms
            · exact ⟨c2, mc2, List.mem_singleton.mp ms⟩
          · rintro D H4 zs hD f4 ⟨kb, kw⟩ ⟨kl, km⟩ _ ha
            obtain ⟨p, xs, e, ep, rx⟩ := ha
            cases e
            obtain ⟨nm, sm⟩ := isName_join (zs := zs) (by omega) (by omega) km
            walk_at "rr"
            refine ⟨"", D, zs, rfl, rfl, .inl (.inl (.inl (by rw [← ats_str rx]; exact (of_del ep).1))), ?_, ?_⟩
            · rw [sm, show (Str.ofString "").length = 0 from rfl]
              omega
            · exact q _ H4 (f3.trans f4) (b03.trans kb) (kw.mono (by omega)) nm
      · walk_at "rr"
        refine ⟨w0, 8, _, rfl, W2, by decide, by decide, by omega, fun m H3 m0 m1 b3 W3 => ?_⟩
        have f3 := f2.trans (b3.fr f2.live mw W3.lv)
        have b03 := b02.trans b3
        walk_at "rr"
        refine CR (γ := Str) f3.live (fun j H' => But w0 H3 H' ∧ WellAt H' w0 (n + 1 + 1 + 1 + j)) (fun j zs => zs.length = j ∧ ∀ s ∈ zs, ∃ c ∈ lets, s = (⟨#[c]⟩ : Str)) ⟨rfl, fun s m => by cases m⟩ ⟨But.refl, W3⟩ (fun j D o H' hD nD e => est_well hD (fun e => nD (e ▸ mw)) e) ?_ ?_
        · rintro D j zs H4 hj k
          obtain ⟨kb, kw⟩ := k.ex
          obtain ⟨kl, km⟩ := k.r
          walk_at "rr"
          refine ⟨w0, 26, _, rfl, kw, by decide, by decide, by omega, fun i2 H5 j0 j1 b5 W5 => ?_⟩
          obtain ⟨c2, ec2⟩ := atI_there (xs := lets) j0 (by show i2 < ((lets.length : Nat) : Int); rw [show lets.length = 26 by decide +kernel]; omega)
          have mc2 := atI_mem' ec2
          walk_at "rr"
          refine r_ixS (by rw [l26]; decide) ec2 ?_
          refine k.put (c := (⟨#[c2]⟩ : Str)) (b5.fr (k.lv.sub fun _ m => List.mem_cons_of_mem _ m) mw W5.lv) ⟨kb.trans b5, W5⟩ (at_str (by
            have b : ∀ c ∈ lets, PyData.strOk (⟨#[c]⟩ : Str) = true := by decide +kernel
            exact b c2 mc2)) ⟨by rw [List.length_append, kl]; rfl, fun s ms => ?_⟩ (by omega) (fun o e => est_well k.D0 (fun e => k.out (e ▸ mw)) e)
          rcases List.mem_append.mp ms with ms | ms
          · exact km s ms
          · exact ⟨c2, mc2, List.mem_singleton.mp ms⟩
        · rintro D H4 zs hD f4 ⟨kb, kw⟩ ⟨kl, km⟩ _ ha
          obtain ⟨p, xs, e, ep, rx⟩ := ha
          cases e
          obtain ⟨nm, sm⟩ := isName_join (zs := zs) (by omega) (by omega) km
          walk_at "rr"
          refine ⟨"", D, zs, rfl, rfl, .inl (.inl (.inl (by rw [← ats_str rx]; exact (of_del ep).1))), ?_, ?_⟩
          · rw [sm, show (Str.ofString "").length = 0 from rfl]
            omega
          · exact q _ H4 (f3.trans f4) (b03.trans kb) (kw.mono (by omega)) nm
/-! ### _law_numbered -/
abbrev s__law_numbered : Stmt := top 32
theorem sc__law_numbered : FnScope ["wells", "last", "found", "k", "word", "wide", "gap"] ["wells"] (defScope s__law_numbered) := ⟨rfl, rfl, rfl, by decide +kernel, rfl, by decide +kernel, by decide +kernel⟩
def sp__law_numbered (_ : PySem.W.Frag) : Sp := fun vs H Q _ => ∃ (v : V) (W wa : List Addr) (n : Nat) (ns : List Addr), vs = [v] ∧ Live ns H ∧ (∀ a ∈ W, a ∈ ns) ∧ Wls W n H ∧ WellsAt ns H v wa ∧ (∀ a ∈ wa, a ∈ W) ∧ wa.length ≤ 100 ∧ n + 1000 < 1000000000 ∧
  ∀ r names x y H', Fr ns H ns H' → Buts W H H' → Wls W (n + 300) H' → At (del ns H') r names → NamesOk names x y → names.length = wa.length → Q r H'
theorem ok__law_numbered {fa : Addr} {fd : FuncData} (F : Fun K "_law_numbered" "_law_numbered" s__law_numbered fa fd) (TX : Tx mg)
    (C__law_draw : Cal P w K mg base CX0 2 "_law_draw" ["well", "many"] (sp__law_draw K)) :
    FnOk P w K mg base CX0 3 fa fd ["wells"] (sp__law_numbered K) := by
  refine F.ok sc__law_numbered (fun vs H Q E h => ?_) (fun cdv A outer s H vs Q E hr h => ?_)
  · obtain ⟨v, W, wa, n, ns, rfl, lv, sW, hW, hv, sw, hl, hn, q⟩ := h
    rfl
  · obtain ⟨v, W, wa, n, ns, rfl, lv, sW, hW, hv, sw, hl, hn, q⟩ := h
    have hu := hu_of hr
    have hu64 := hr.units
    have hu65 := hu65_of hr
    have nb : ("go" : Str) ≠ "box" := by decide +kernel
    refine ⟨_, (pss_cons (ps_set (i := 1) sc__law_numbered.nd rfl (Or.inl rfl) (pe_disp (pps_cons pe_str (pe_un un_neg pe_int) (pps_cons pe_str (pe_un un_neg pe_int) pps_nil)) (by rfl) (by rfl) (fun z => by cases z) (by decide)))
  (pss_cons (ps_set (i := 2) sc__law_numbered.nd rfl (Or.inl rfl) (pe_lst pa_nil))
  (pss_cons (ps_for PassesOwn.never rfl (pi_range1 (by rfl) TX.range (pa_cons (pe_callB call_len (by rfl) TX.n_len (by decide +kernel) (pa_cons (pv 0) pa_nil)) pa_nil)) (pg_name (i := 3) sc__law_numbered.nd rfl (Or.inl rfl))
  (pss_cons (ps_set (i := 4) sc__law_numbered.nd rfl (Or.inl rfl) (pe_ix ix_list (pe_lst (pa_cons pe_str (pa_cons pe_str pa_nil))) (pe_cal C__law_draw (hr.mono (by decide)) (by rfl) pass0 (pa_cons (pe_ix ix_list (pv 0) (pv 3) (fun _ _ => rfl)) (pa_cons pe_int pa_nil))) (fun _ _ => rfl)))
  (pss_cons (ps_set (i := 5) sc__law_numbered.nd rfl (Or.inl rfl) (pe_cal C__law_draw (hr.mono (by decide)) (by rfl) pass0 (pa_cons (pe_ix ix_list (pv 0) (pv 3) (fun _ _ => rfl)) (pa_cons pe_int pa_nil))))
  (pss_cons (ps_set (i := 6) sc__law_numbered.nd rfl (Or.inl rfl) pe_int)
  (pss_cons (ps_if (pt_cmpR op_gt (pv 5) pe_int (nomark _)) (pss_one (ps_set (i := 6) sc__law_numbered.nd rfl (Or.inl rfl) (pe_cal C__law_draw (hr.mono (by decide)) (by rfl) pass0 (pa_cons (pe_ix ix_list (pv 0) (pv 3) (fun _ _ => rfl)) (pa_cons (pe_ix ix_list (pe_lst (pa_cons pe_int (pa_cons (pe_op op_pow pe_int pe_int) pa_nil))) (pe_op op_sub (pv 5) pe_int) (fun _ _ => rfl)) pa_nil))))) pss_nil)
  (pss_cons (ps_dput hu (pv 1) (pv 4) (pe_op op_add (pe_op op_add (pe_dget hu (pv 1) (pv 4) (fun _ _ => rfl)) pe_int) (pv 6)) rfl)
  (pss_one (ps_expr (pe_bm PySem.F.plainAttrs_list PySem.F.slot_list_append PySem.F.type_list_append mt_append (pv 2) (pa_cons (pe_tup (pa_cons (pv 4) (pa_cons (pe_dget hu (pv 1) (pv 4) (fun _ _ => rfl)) pa_nil))) pa_nil))))))))))
  (pss_one (ps_ret (pv 2)))))), ?_⟩
    refine r_begin (show L2.start _ _ = [some _, none, none, none, none, none, none] from rfl) ?_
    try dsimp only [cxOf]
    walk_at "rr"
    refine r_disp fun d hd => ?_
    walk_at "rr"
    refine ⟨upd_same, [(.inr "box", .int (-1)), (.inr "go", .int (-1))], rfl, by decide, ?_⟩
    rw [show mergeK [] [((.inr "box" : Key), V.int (-1)), (.inr "go", .int (-1))] = [(.inr "box", .int (-1)), (.inr "go", .int (-1))] by decide +kernel]
    rw [L2.upd_upd]
    have s1 : Same H (upd H d (.dK [((.inr "box" : Key), V.int (-1)), (.inr "go", .int (-1))])) := same_new hd
    have f1 : Fr ns H (d :: ns) (upd H d (.dK [((.inr "box" : Key), V.int (-1)), (.inr "go", .int (-1))])) := .mkO lv hd (fun _ e => by cases e)
    have d1 : Dc (κ := Str) (α := Int) (d :: ns) (upd H d (.dK [((.inr "box" : Key), V.int (-1)), (.inr "go", .int (-1))])) d [("box", -1), ("go", -1)] := ⟨_, upd_same, .cons ⟨rfl, rfl⟩ (.cons ⟨rfl, rfl⟩ .nil)⟩
    generalize upd H d (.dK [((.inr "box" : Key), V.int (-1)), (.inr "go", .int (-1))]) = H1 at s1 f1 d1 ⊢
    walk_at "rr"
    refine r_lstO (as := ([] : List Wo)) f1.live .nil (by decide) fun f H2 hf s2 f2 o2 => ?_
    have s02 := s1.trans s2
    have f02 := f1.trans f2
    have hf0 : H f = none := s1.free hf
    have d2 := d1.fr f2 (fun o e => s2 _ _ e)
    have g0 : getA [(("box" : Str), (-1 : Int)), ("go", -1)] "box" = some (-1) := rfl
    have g1 : getA [(("box" : Str), (-1 : Int)), ("go", -1)] "go" = some (-1) := by decide +kernel
    have g2 : [(("box" : Str), (-1 : Int)), ("go", -1)].length ≤ 2 := by decide
    generalize [(("box" : Str), (-1 : Int)), ("go", -1)] = l0 at d2 g0 g1 g2
    have nfd : d ≠ f := fun e => by
      obtain ⟨kvs, e1, _⟩ := d1
      rw [e, hf] at e1
      cases e1
    have nW : ∀ a, H a = none → a ∉ W := fun a e m => by
      obtain ⟨_, q, _⟩ := hW.lv a m
      rw [e] at q
      cases q
    walk_at "rr"
    refine r_lenW (hv.fr f02) ?_
    walk_at "rr"
    rw [Int.toNat_natCast]
    refine L_range (fun j σ H3 => ∃ (u3 u4 u5 u6 : Option V) (x y : Int) (names : List Wo) (l : List (Str × Int)), σ = [some v, some (.ref d), some (.ref f), u3, u4, u5, u6] ∧ Fr (f :: d :: ns) H2 (f :: d :: ns) H3 ∧ Buts W H H3 ∧ Wls W (n + 3 * j) H3 ∧ Dc (κ := Str) (α := Int) (f :: d :: ns) H3 d l ∧ getA l "box" = some x ∧ getA l "go" = some y ∧ l.length ≤ 2 ∧ Own (f :: d :: ns) H3 f names ∧ NamesOk names x y ∧ names.length = j ∧ -1 ≤ x ∧ -1 ≤ y)
      ⟨_, _, _, _, -1, -1, [], l0, rfl, .refl f2.live, .of s02, (hW.same s02), d2, g0, g1, g2, o2, ⟨fun w m => (by cases m), fun w m => (by cases m), .nil⟩, rfl, by decide, by decide⟩ ?_ ?_
    · rintro j σ H3 hj ⟨u3, u4, u5, u6, x, y, names, l, rfl, f3, b3, W3, d3, gx, gy, gl, o3, no, ln, hx, hy⟩
      have ej : atI wa (0 + (j : Int)) = some wa[j] := by
        rw [Int.zero_add]
        exact atI_nat (List.getElem?_eq_getElem hj)
      have mj : wa[j] ∈ W := sw _ (List.getElem_mem hj)
      have mjn : wa[j] ∈ f :: d :: ns := List.mem_cons_of_mem _ (List.mem_cons_of_mem _ (sW _ mj))
      have njd : wa[j] ≠ d := fun e => nW d hd (e ▸ mj)
      have njf : wa[j] ≠ f := fun e => nW f hf0 (e ▸ mj)
      generalize wa[j] = p at ej mj mjn njd njf
      walk_at "rr"
      refine r_lstA (xs := [.str "box", .str "go"]) (as := (["box", "go"] : List Str)) f3.live (.cons (at_str ok_box) (.cons (at_str ok_go) .nil)) (by show 2 ≤ 100000; decide) fun l4 H4 hl4 s4 h4 => ?_
      have f4 := Fr.of f3.live s4
      walk_at "rr"
      refine r_ixW (hv.fr ((f02.trans f3).trans f4)) ej ?_
      walk_at "rr"
      refine ⟨p, 2, _, rfl, (W3.same s4) p mj, by decide, by decide, by omega, fun i H5 i0 i1 b5 w5 => ?_⟩
      have f5 := b5.fr f4.live mjn w5.lv
      have W5 := (W3.same s4).draw b5 w5
      obtain ⟨word, ew, hw⟩ := pick2 (a := ("box" : Str)) (b := "go") i0 i1
      have hw : word = "box" ∨ word = "go" := hw.imp (·.2) (·.2)
      have okw : PyData.strOk word = true := by rcases hw with rfl | rfl <;> decide +kernel
      walk_at "rr"
      refine r_xl (f5.at_ h4) ew fun xw hxw => ?_
      obtain ⟨rfl, _⟩ : xw = .str word ∧ _ := hxw
      have f45 := f4.trans f5
      walk_at "rr"
      refine r_ixW (hv.fr ((f02.trans f3).trans f45)) ej ?_
      walk_at "rr"
      refine ⟨p, 4, _, rfl, W5 p mj, by decide, by decide, by omega, fun wide H6 w0 w1 b6 w6 => ?_⟩
      have f6 := b6.fr f45.live mjn w6.lv
      have f46 := f45.trans f6
      have W6 := W5.draw b6 w6
      have b36 := ((b3.trans (.of s4)).trans (b5.buts mj)).trans (b6.buts mj)
      have d6 : Dc (κ := Str) (α := Int) (f :: d :: ns) H6 d l := d3.fr f46 fun o e => b6 _ _ (b5 _ _ (s4 _ _ e) njd.symm) njd.symm
      have o6 : Own (f :: d :: ns) H6 f names := o3.fr f46 fun o e => b6 _ _ (b5 _ _ (s4 _ _ e) njf.symm) njf.symm
      walk_at "rr"
      refine r_d (fun hc => ?_) (fun hc => ?_)
      · walk_at "rr"
        refine r_ixW (hv.fr ((f02.trans f3).trans f46)) ej ?_
        walk_at "rr"
        refine r_lstA (xs := [.int 5, .int (10 ^ Int.toNat 30)]) (as := [5, 10 ^ Int.toNat 30]) f46.live (ats_of_int (l := [5, 10 ^ Int.toNat 30])) (by show 2 ≤ 100000; decide) fun l7 H7 hl7 s7 h7 => ?_
        have f7 := Fr.of f46.live s7
        obtain ⟨m, em, hm⟩ := pick2 (a := (5 : Int)) (b := 10 ^ Int.toNat 30) (i := wide - 2) (by omega) (by omega)
        walk_at "rr"
        refine r_xl h7 em fun xm hxm => ?_
        obtain rfl : xm = .int m := hxm
        rw [e30] at hm
        have hm2 : m.natAbs < 2 ^ 220 := by rcases hm with ⟨_, rfl⟩ | ⟨_, rfl⟩ <;> decide
        walk_at "rr"
        refine ⟨p, m, _, rfl, (W6.same s7) p mj, by omega, hm2, by omega, fun g H9 g0 g1 b9 w9 => ?_⟩
        have f8 := b9.fr f7.live mjn w9.lv
        have f9 := (f46.trans f7).trans f8
        have W9 := (W6.same s7).draw b9 w9
        have bb9 := (b36.trans (.of s7)).trans (b9.buts mj)
        have d9 : Dc (κ := Str) (α := Int) (f :: d :: ns) H9 d l := d6.fr (f7.trans f8) fun o e => b9 _ _ (s7 _ _ e) njd.symm
        have o9 : Own (f :: d :: ns) H9 f names := o6.fr (f7.trans f8) fun o e => b9 _ _ (s7 _ _ e) njf.symm
        walk_at "rr"
        obtain ⟨z, gz, hz, cz⟩ : ∃ z, getA l word = some z ∧ -1 ≤ z ∧ ((word = "box" ∧ z = x) ∨ (word = "go" ∧ z = y)) := by
          rcases hw with rfl | rfl
          · exact ⟨x, gx, hx, .inl ⟨rfl, rfl⟩⟩
          · exact ⟨y, gy, hy, .inr ⟨rfl, rfl⟩⟩
        refine r_dgetA d9.rd (at_str okw) gz fun u hu => ?_
        obtain rfl : u = .int z := hu
        walk_at "rr"
        refine r_dputA f9.live (List.mem_cons_of_mem _ List.mem_cons_self) d9 (at_str okw) (at_int (n := z + 1 + g)) (by omega) fun H10 f10 b10 d10 => ?_
        have o10 : Own (f :: d :: ns) H10 f names := o9.fr f10 fun o e => b10 _ _ e nfd.symm
        walk_at "rr"
        refine o10.tyL ?_
        walk_at "rr"
        refine r_dgetA d10.rd (at_str okw) (by rw [getA_put, if_pos rfl]) fun u hu => ?_
        obtain rfl : u = .int (z + 1 + g) := hu
        walk_at "rr"
        refine r_tupA2 (x := .str word) (y := .int (z + 1 + g)) (ab := ((word, z + 1 + g) : Wo)) f10.live (at_str okw) at_int fun tp H11 htp s11 h11 => ?_
        have f11 := f10.trans (.of f10.live s11)
        walk_at "rr"
        refine r_appO (Fr.of f10.live s11).live List.mem_cons_self (o10.fr (.of f10.live s11) fun o e => s11 _ _ e) h11 (by omega) fun H12 f12 b12 o12 => ?_
        have d12 := (d10.fr (.of f10.live s11) fun o e => s11 _ _ e).fr f12 fun o e => b12 _ _ e nfd
        have bb12 : Buts W H H12 := ((bb9.but hd b10).trans (.of s11)).but hf0 b12
        have W12 : Wls W (n + 3 * (j + 1)) H12 := (((W9.but b10 (nW d hd)).same s11).but b12 (nW f hf0)).mono (by omega)
        have kl : (putA l word (z + 1 + g)).length ≤ 2 := by
          have m : word ∈ l.map (·.1) := by
            refine Classical.byContradiction fun k => ?_
            rw [getA_none.mpr k] at gz
            cases gz
          have := congrArg List.length (putA_keys (l := l) (k := word) (a := z + 1 + g))
          rw [if_pos m, List.length_map, List.length_map] at this
          omega
        walk_at "rr"
        rcases cz with ⟨rfl, rfl⟩ | ⟨rfl, rfl⟩
        · exact ⟨_, _, _, _, z + 1 + g, y, _, _, rfl, f3.trans ((f9.trans f11).trans f12), bb12, W12, d12, by rw [getA_put, if_pos rfl], by rw [getA_put, if_neg nb]; exact gy, kl, o12, no.snoc (by omega) (Int.le_refl _) (.inl ⟨rfl, rfl, by omega⟩) (by show 0 ≤ z + 1 + g; omega), by rw [List.length_append, ln]; rfl, by omega, hy⟩
        · exact ⟨_, _, _, _, x, z + 1 + g, _, _, rfl, f3.trans ((f9.trans f11).trans f12), bb12, W12, d12, by rw [getA_put, if_neg nb.symm]; exact gx, by rw [getA_put, if_pos rfl], kl, o12, no.snoc (Int.le_refl _) (by omega) (.inr ⟨rfl, rfl, by omega⟩) (by show 0 ≤ z + 1 + g; omega), by rw [List.length_append, ln]; rfl, hx, by omega⟩
      · walk_at "rr"
        obtain ⟨g, hg, g0⟩ : ∃ g : Int, g = 0 ∧ 0 ≤ g := ⟨0, rfl, by decide⟩
        rw [← hg]
        obtain ⟨H9, e9⟩ : ∃ z, z = H6 := ⟨_, rfl⟩
        subst e9
        have f9 := f46
        have W9 := W6.mono (show n + 3 * j + 1 + 1 ≤ n + 3 * j + 1 + 1 + 1 by omega)
        have bb9 := b36
        have d9 := d6
        have o9 := o6
        obtain ⟨z, gz, hz, cz⟩ : ∃ z, getA l word = some z ∧ -1 ≤ z ∧ ((word = "box" ∧ z = x) ∨ (word = "go" ∧ z = y)) := by
          rcases hw with rfl | rfl
          · exact ⟨x, gx, hx, .inl ⟨rfl, rfl⟩⟩
          · exact ⟨y, gy, hy, .inr ⟨rfl, rfl⟩⟩
        refine r_dgetA d9.rd (at_str okw) gz fun u hu => ?_
        obtain rfl : u = .int z := hu
        walk_at "rr"
        refine r_dputA f9.live (List.mem_cons_of_mem _ List.mem_cons_self) d9 (at_str okw) (at_int (n := z + 1 + g)) (by omega) fun H10 f10 b10 d10 => ?_
        have o10 : Own (f :: d :: ns) H10 f names := o9.fr f10 fun o e => b10 _ _ e nfd.symm
        walk_at "rr"
        refine o10.tyL ?_
        walk_at "rr"
        refine r_dgetA d10.rd (at_str okw) (by rw [getA_put, if_pos rfl]) fun u hu => ?_
        obtain rfl : u = .int (z + 1 + g) := hu
        walk_at "rr"
        refine r_tupA2 (x := .str word) (y := .int (z + 1 + g)) (ab := ((word, z + 1 + g) : Wo)) f10.live (at_str okw) at_int fun tp H11 htp s11 h11 => ?_
        have f11 := f10.trans (.of f10.live s11)
        walk_at "rr"
        refine r_appO (Fr.of f10.live s11).live List.mem_cons_self (o10.fr (.of f10.live s11) fun o e => s11 _ _ e) h11 (by omega) fun H12 f12 b12 o12 => ?_
        have d12 := (d10.fr (.of f10.live s11) fun o e => s11 _ _ e).fr f12 fun o e => b12 _ _ e nfd
        have bb12 : Buts W H H12 := ((bb9.but hd b10).trans (.of s11)).but hf0 b12
        have W12 : Wls W (n + 3 * (j + 1)) H12 := (((W9.but b10 (nW d hd)).same s11).but b12 (nW f hf0)).mono (by omega)
        have kl : (putA l word (z + 1 + g)).length ≤ 2 := by
          have m : word ∈ l.map (·.1) := by
            refine Classical.byContradiction fun k => ?_
            rw [getA_none.mpr k] at gz
            cases gz
          have := congrArg List.length (putA_keys (l := l) (k := word) (a := z + 1 + g))
          rw [if_pos m, List.length_map, List.length_map] at this
          omega
        walk_at "rr"
        rcases cz with ⟨rfl, rfl⟩ | ⟨rfl, rfl⟩
        · exact ⟨_, _, _, _, z + 1 + g, y, _, _, rfl, f3.trans ((f9.trans f11).trans f12), bb12, W12, d12, by rw [getA_put, if_pos rfl], by rw [getA_put, if_neg nb]; exact gy, kl, o12, no.snoc (by omega) (Int.le_refl _) (.inl ⟨rfl, rfl, by omega⟩) (by show 0 ≤ z + 1 + g; omega), by rw [List.length_append, ln]; rfl, by omega, hy⟩
        · exact ⟨_, _, _, _, x, z + 1 + g, _, _, rfl, f3.trans ((f9.trans f11).trans f12), bb12, W12, d12, by rw [getA_put, if_neg nb.symm]; exact gx, by rw [getA_put, if_pos rfl], kl, o12, no.snoc (Int.le_refl _) (by omega) (.inr ⟨rfl, rfl, by omega⟩) (by show 0 ≤ z + 1 + g; omega), by rw [List.length_append, ln]; rfl, hx, by omega⟩
    · rintro σ H3 ⟨u3, u4, u5, u6, x, y, names, l, rfl, f3, b3, W3, d3, gx, gy, gl, o3, no, ln, hx, hy⟩
      walk_at "rr"
      have f03 := f02.trans f3
      have h3 := o3.shut (f1.live.not hf)
      have l3 : Live (d :: ns) H3 := f3.live.sub fun _ m => List.mem_cons_of_mem _ m
      exact q _ names x y H3 ((f03.trans (.drop f3.live)).trans (.drop l3)) b3 (W3.mono (by omega)) ((Fr.drop l3).at_ h3) no ln
/-! ### _law_hold -/
abbrev s__law_hold : Stmt := top 33
theorem sc__law_hold : FnScope ["well", "where", "thing", "pile", "pegs", "hosts", "row", "name"] ["well", "where", "thing", "pile", "pegs", "hosts"] (defScope s__law_hold) := ⟨rfl, rfl, rfl, by decide +kernel, rfl, by decide +kernel, by decide +kernel⟩
def sp__law_hold (_ : PySem.W.Frag) : Sp := fun vs H Q _ => ∃ (w : Addr) (wh : Int) (x : V) (P d : Addr) (hv : V) (t : Wo) (n : Nat) (ns W hs : List Addr) (cs : List (Addr × List Wo)) (pl : List (Str × Wo)), vs = [.ref w, .int wh, x, .ref P, .ref d, hv] ∧
  Live ns H ∧ (∀ a ∈ W, a ∈ ns) ∧ Wls W n H ∧ w ∈ W ∧ n + 100 < 1000000000 ∧ At (del ns H) x t ∧ Rows ns H cs ∧ P ∈ cs.map (·.1) ∧ d ∈ ns ∧ d ∉ W ∧ Dc ns H d pl ∧ pl.length ≤ 1000 ∧ (∀ e ∈ cs, e.1 ∉ W ∧ e.1 ≠ d ∧ e.2.length ≤ 1000) ∧ WellsAt ns H hv hs ∧ (∀ a ∈ hs, a ∈ cs.map (·.1)) ∧ hs.length ≤ 1000 ∧
  ∀ cs' pl' H', Fr ns H ns H' → Buts (d :: (cs.map (·.1) ++ W)) H H' → Wls W (n + 40) H' → Rows ns H' cs' → Dc ns H' d pl' → Held t P hs cs cs' pl pl' → Q .non H'
theorem ok__law_hold {fa : Addr} {fd : FuncData} (F : Fun K "_law_hold" "_law_hold" s__law_hold fa fd) (TX : Tx mg)
    (C__law_draw : Cal P w K mg base CX0 2 "_law_draw" ["well", "many"] (sp__law_draw K))
    (C__law_name : Cal P w K mg base CX0 3 "_law_name" ["well", "last"] (sp__law_name K)) :
    FnOk P w K mg base CX0 4 fa fd ["well", "where", "thing", "pile", "pegs", "hosts"] (sp__law_hold K) := by
  refine F.ok sc__law_hold (fun vs H Q E h => ?_) (fun cdv A outer s H vs Q E hr h => ?_)
  · obtain ⟨w0, wh, x, P, d, hv, t, n, ns, W, hs, cs, pl, rfl, lv, sW, hW, mw, hn, hx, R, mP, md, ndW, hd, lpl, kc, hh, sh, lh, q⟩ := h
    rfl
  · obtain ⟨w0, wh, x, P, d, hv, t, n, ns, W, hs, cs, pl, rfl, lv, sW, hW, mw, hn, hx, R, mP, md, ndW, hd, lpl, kc, hh, sh, lh, q⟩ := h
    have hu := hu_of hr
    have hu64 := hr.units
    have hu65 := hu65_of hr
    have mwn := sW w0 mw
    have ndw : d ≠ w0 := fun e => ndW (by rw [e]; exact mw)
    have sM : ∀ {H1 H2 : Hp}, Buts W H1 H2 → Buts (d :: (cs.map (·.1) ++ W)) H1 H2 := fun b c o e k => b c o e fun m => k (List.mem_cons_of_mem _ (List.mem_append_right _ m))
    refine ⟨_, (pss_cons (ps_set (i := 6) sc__law_hold.nd rfl (Or.inl rfl) (pv 3))
  (pss_cons (ps_if (PW.pt (pw_and (pt_cmpR op_gt (pv 1) pe_int (nomark _)) (pw_and1 (pt_cmpR (op_neD hu64) (pv 5) (pe_lst pa_nil) (nomark _))))) (pss_one (ps_set (i := 6) sc__law_hold.nd rfl (Or.inl rfl) (pe_ix ix_list (pv 5) (pe_cal C__law_draw (hr.mono (by decide)) (by rfl) pass0 (pa_cons (pv 0) (pa_cons (pe_callB call_len (by rfl) TX.n_len (by decide +kernel) (pa_cons (pv 5) pa_nil)) pa_nil))) (fun _ _ => rfl)))) pss_nil)
  (pss_cons (ps_set (i := 7) sc__law_hold.nd rfl (Or.inl rfl) pe_str)
  (pss_cons (ps_if (pt_cmpR op_eq (pv 1) pe_int (nomark _)) (pss_one (ps_set (i := 7) sc__law_hold.nd rfl (Or.inl rfl) (pe_cal C__law_name (hr.mono (by decide)) (by rfl) pass0 (pa_cons (pv 0) (pa_cons pe_str pa_nil))))) pss_nil)
  (pss_one (ps_if (PW.pt (pw_and (pt_cmpR op_ne (pv 7) pe_str (nomark _)) (pw_and1 (pt_cmp (pc_dnotin hu (pv 7) (pv 4)))))) (pss_one (ps_dput hu (pv 4) (pv 7) (pv 2) rfl)) (pss_one (ps_expr (pe_bm PySem.F.plainAttrs_list PySem.F.slot_list_insert PySem.F.type_list_insert (mt_insert : MtR _ _ rInsert) (pv 6) (pa_cons (pe_cal C__law_draw (hr.mono (by decide)) (by rfl) pass0 (pa_cons (pv 0) (pa_cons (pe_op op_add (pe_callB call_len (by rfl) TX.n_len (by decide +kernel) (pa_cons (pv 6) pa_nil)) pe_int) pa_nil))) (pa_cons (pv 2) pa_nil))))))))))), ?_⟩
    refine r_begin (show L2.start _ _ = [some _, some _, some _, some _, some _, some _, none, none] from rfl) ?_
    try dsimp only [cxOf]
    walk_at "rr"
    refine r_d (fun hc => ?_) (fun hc => ?_)
    · walk_at "rr"
      refine r_lstA (as := ([] : List (List Wo))) lv .nil (by decide) fun e H1 he s1 h1 => ?_
      have f1 := Fr.of lv s1
      have R1 := R.keep f1 fun _ _ o e => s1 _ _ e
      obtain ⟨ls, hls, lls⟩ := hosts_at (hh.fr f1) R1 sh
      walk_at "rr"
      refine r_neA hls (at_sub h1) ?_
      walk_at "rr"
      refine r_nd (fun hn0 => ?_) (fun hn0 => ?_)
      · have l0 : 0 < ls.length := List.length_pos_iff.mpr hn0
        walk_at "rr"
        refine r_lenW (hh.fr f1) ?_
        walk_at "rr"
        refine ⟨w0, _, _, rfl, (hW.same s1) w0 mw, by omega, by omega, by omega, fun i H2 i0 i1 b2 w2 => ?_⟩
        have g2 := b2.fr f1.live mwn w2.lv
        obtain ⟨a, ea⟩ := atI_there (xs := hs) i0 (by omega)
        have ma := atI_mem' ea
        walk_at "rr"
        refine r_ixW (hh.fr (f1.trans g2)) ea ?_
        have f2 := f1.trans g2
        have W2 := (hW.same s1).draw b2 w2
        have b02 : Buts W H H2 := (Buts.of s1).trans (b2.buts mw)
        have mc := sh a ma
        have ma' : a = P ∨ a ∈ hs := .inr ma
        walk_at "rr"
        refine r_d (fun hc1 => ?_) (fun hc1 => ?_)
        · walk_at "rr"
          refine ⟨w0, "", _, ns, rfl, f2.live, mwn, W2 w0 mw, by omega, .inr rfl, fun z H3 g3 b3 w3 nz => ?_⟩
          have f3 := f2.trans g3
          have W3 := W2.draw b3 w3
          have b03 := b02.trans (b3.buts mw)
          have R3 := R.keep f3 fun e m o q => b03 _ _ q (kc e m).1
          have d3 := hd.fr f3 fun o q => b03 _ _ q ndW
          walk_at "rr"
          refine r_nd (fun hz0 => ?_) (fun hz0 => ?_)
          · walk_at "rr"
            refine r_dninA d3.rd (at_str (isName_ok nz)) ?_
            walk_at "rr"
            refine r_nd (fun hin => ?_) (fun hin => ?_)
            · walk_at "rr"
              refine r_dputA f3.live md d3 (at_str (isName_ok nz)) (f3.at_ hx) (by omega) fun H4 f4 b4 d4 => ?_
              rw [putA_new hin] at d4
              walk_at "rr"
              refine q cs _ H4 (f3.trans f4) ((sM b03).trans fun c o e k => b4 c o e fun m => k (by rw [m]; exact List.mem_cons_self)) ((W3.but b4 ndW).mono (by omega)) (R3.keep f4 fun e m o q => b4 _ _ q (kc e m).2.1) d4 (.inl ⟨rfl, z, nz, hin, rfl⟩)
            · walk_at "rr"
              obtain ⟨j, ws, ej, man, oa⟩ := R3.at_ mc
              have mj := List.mem_of_getElem? ej
              have kj := kc _ mj
              refine oa.tyL ?_
              walk_at "rr"
              refine r_lenO oa ?_
              have lws : ws.length ≤ 1000 := kj.2.2
              walk_at "rr"
              refine ⟨w0, _, _, rfl, W3 w0 mw, by omega, by omega, by omega, fun i H4 i0 i1 b4 w4 => ?_⟩
              have g4 := b4.fr f3.live mwn w4.lv
              have ne : a ≠ w0 := fun e => kj.1 (by rw [show (a, ws).1 = w0 from e]; exact mw)
              have o4 := oa.fr g4 fun o e => b4 _ _ e ne
              walk_at "rr"
              refine r_insO g4.live man o4 ((f3.trans g4).at_ hx) (by omega) i0 (by omega) fun H5 g5 b5 o5 => ?_
              have R4 := R3.keep g4 fun e m o q => b4 _ _ q fun z => (kc e m).1 (z ▸ mw)
              walk_at "rr"
              refine q _ pl H5 ((f3.trans g4).trans g5) (((sM b03).trans (sM (b4.buts mw))).trans fun c o e k => b5 c o e fun m => k (List.mem_cons_of_mem _ (List.mem_append_left _ (by rw [m]; exact mc)))) (((W3.draw b4 w4).but b5 kj.1).mono (by omega)) (R4.ins ej g5 b5 o5) ((d3.fr g4 fun o e => b4 _ _ e ndw).fr g5 fun o e => b5 _ _ e kj.2.1.symm) (.inr ⟨rfl, j, a, ws, i.toNat, ej, ma', rfl⟩)
          · walk_at "rr"
            obtain ⟨j, ws, ej, man, oa⟩ := R3.at_ mc
            have mj := List.mem_of_getElem? ej
            have kj := kc _ mj
            refine oa.tyL ?_
            walk_at "rr"
            refine r_lenO oa ?_
            have lws : ws.length ≤ 1000 := kj.2.2
            walk_at "rr"
            refine ⟨w0, _, _, rfl, W3 w0 mw, by omega, by omega, by omega, fun i H4 i0 i1 b4 w4 => ?_⟩
            have g4 := b4.fr f3.live mwn w4.lv
            have ne : a ≠ w0 := fun e => kj.1 (by rw [show (a, ws).1 = w0 from e]; exact mw)
            have o4 := oa.fr g4 fun o e => b4 _ _ e ne
            walk_at "rr"
            refine r_insO g4.live man o4 ((f3.trans g4).at_ hx) (by omega) i0 (by omega) fun H5 g5 b5 o5 => ?_
            have R4 := R3.keep g4 fun e m o q => b4 _ _ q fun z => (kc e m).1 (z ▸ mw)
            walk_at "rr"
            refine q _ pl H5 ((f3.trans g4).trans g5) (((sM b03).trans (sM (b4.buts mw))).trans fun c o e k => b5 c o e fun m => k (List.mem_cons_of_mem _ (List.mem_append_left _ (by rw [m]; exact mc)))) (((W3.draw b4 w4).but b5 kj.1).mono (by omega)) (R4.ins ej g5 b5 o5) ((d3.fr g4 fun o e => b4 _ _ e ndw).fr g5 fun o e => b5 _ _ e kj.2.1.symm) (.inr ⟨rfl, j, a, ws, i.toNat, ej, ma', rfl⟩)
        · obtain ⟨H3, e3⟩ : ∃ z, z = H2 := ⟨_, rfl⟩
          rw [← e3]
          have f3 : Fr ns H ns H3 := by rw [e3]; exact f2
          have W3 : Wls W (n + 1 + 30) H3 := by rw [e3]; exact W2.mono (by omega)
          have b03 : Buts W H H3 := by rw [e3]; exact b02
          have R3 := R.keep f3 fun e m o q => b03 _ _ q (kc e m).1
          have d3 := hd.fr f3 fun o q => b03 _ _ q ndW
          clear e3
          walk_at "rr"
          refine r_itF (by decide +kernel) ?_
          walk_at "rr"
          obtain ⟨j, ws, ej, man, oa⟩ := R3.at_ mc
          have mj := List.mem_of_getElem? ej
          have kj := kc _ mj
          refine oa.tyL ?_
          walk_at "rr"
          refine r_lenO oa ?_
          have lws : ws.length ≤ 1000 := kj.2.2
          walk_at "rr"
          refine ⟨w0, _, _, rfl, W3 w0 mw, by omega, by omega, by omega, fun i H4 i0 i1 b4 w4 => ?_⟩
          have g4 := b4.fr f3.live mwn w4.lv
          have ne : a ≠ w0 := fun e => kj.1 (by rw [show (a, ws).1 = w0 from e]; exact mw)
          have o4 := oa.fr g4 fun o e => b4 _ _ e ne
          walk_at "rr"
          refine r_insO g4.live man o4 ((f3.trans g4).at_ hx) (by omega) i0 (by omega) fun H5 g5 b5 o5 => ?_
          have R4 := R3.keep g4 fun e m o q => b4 _ _ q fun z => (kc e m).1 (z ▸ mw)
          walk_at "rr"
          refine q _ pl H5 ((f3.trans g4).trans g5) (((sM b03).trans (sM (b4.buts mw))).trans fun c o e k => b5 c o e fun m => k (List.mem_cons_of_mem _ (List.mem_append_left _ (by rw [m]; exact mc)))) (((W3.draw b4 w4).but b5 kj.1).mono (by omega)) (R4.ins ej g5 b5 o5) ((d3.fr g4 fun o e => b4 _ _ e ndw).fr g5 fun o e => b5 _ _ e kj.2.1.symm) (.inr ⟨rfl, j, a, ws, i.toNat, ej, ma', rfl⟩)
      · have f2 := f1
        have W2 := (hW.same s1).mono (show n ≤ n + 1 by omega)
        have b02 : Buts W H H1 := .of s1
        obtain ⟨H2, e2⟩ : ∃ z, z = H1 := ⟨_, rfl⟩
        subst e2
        obtain ⟨a, ea⟩ : ∃ z, z = P := ⟨_, rfl⟩
        have mc : a ∈ cs.map (·.1) := by rw [ea]; exact mP
        have ma' : a = P ∨ a ∈ hs := .inl ea
        rw [← ea]
        walk_at "rr"
        refine r_d (fun hc1 => ?_) (fun hc1 => ?_)
        · walk_at "rr"
          refine ⟨w0, "", _, ns, rfl, f2.live, mwn, W2 w0 mw, by omega, .inr rfl, fun z H3 g3 b3 w3 nz => ?_⟩
          have f3 := f2.trans g3
          have W3 := W2.draw b3 w3
          have b03 := b02.trans (b3.buts mw)
          have R3 := R.keep f3 fun e m o q => b03 _ _ q (kc e m).1
          have d3 := hd.fr f3 fun o q => b03 _ _ q ndW
          walk_at "rr"
          refine r_nd (fun hz0 => ?_) (fun hz0 => ?_)
          · walk_at "rr"
            refine r_dninA d3.rd (at_str (isName_ok nz)) ?_
            walk_at "rr"
            refine r_nd (fun hin => ?_) (fun hin => ?_)
            · walk_at "rr"
              refine r_dputA f3.live md d3 (at_str (isName_ok nz)) (f3.at_ hx) (by omega) fun H4 f4 b4 d4 => ?_
              rw [putA_new hin] at d4
              walk_at "rr"
              refine q cs _ H4 (f3.trans f4) ((sM b03).trans fun c o e k => b4 c o e fun m => k (by rw [m]; exact List.mem_cons_self)) ((W3.but b4 ndW).mono (by omega)) (R3.keep f4 fun e m o q => b4 _ _ q (kc e m).2.1) d4 (.inl ⟨rfl, z, nz, hin, rfl⟩)
            · walk_at "rr"
              obtain ⟨j, ws, ej, man, oa⟩ := R3.at_ mc
              have mj := List.mem_of_getElem? ej
              have kj := kc _ mj
              refine oa.tyL ?_
              walk_at "rr"
              refine r_lenO oa ?_
              have lws : ws.length ≤ 1000 := kj.2.2
              walk_at "rr"
              refine ⟨w0, _, _, rfl, W3 w0 mw, by omega, by omega, by omega, fun i H4 i0 i1 b4 w4 => ?_⟩
              have g4 := b4.fr f3.live mwn w4.lv
              have ne : a ≠ w0 := fun e => kj.1 (by rw [show (a, ws).1 = w0 from e]; exact mw)
              have o4 := oa.fr g4 fun o e => b4 _ _ e ne
              walk_at "rr"
              refine r_insO g4.live man o4 ((f3.trans g4).at_ hx) (by omega) i0 (by omega) fun H5 g5 b5 o5 => ?_
              have R4 := R3.keep g4 fun e m o q => b4 _ _ q fun z => (kc e m).1 (z ▸ mw)
              walk_at "rr"
              refine q _ pl H5 ((f3.trans g4).trans g5) (((sM b03).trans (sM (b4.buts mw))).trans fun c o e k => b5 c o e fun m => k (List.mem_cons_of_mem _ (List.mem_append_left _ (by rw [m]; exact mc)))) (((W3.draw b4 w4).but b5 kj.1).mono (by omega)) (R4.ins ej g5 b5 o5) ((d3.fr g4 fun o e => b4 _ _ e ndw).fr g5 fun o e => b5 _ _ e kj.2.1.symm) (.inr ⟨rfl, j, a, ws, i.toNat, ej, ma', rfl⟩)
          · walk_at "rr"
            obtain ⟨j, ws, ej, man, oa⟩ := R3.at_ mc
            have mj := List.mem_of_getElem? ej
            have kj := kc _ mj
            refine oa.tyL ?_
            walk_at "rr"
            refine r_lenO oa ?_
            have lws : ws.length ≤ 1000 := kj.2.2
            walk_at "rr"
            refine ⟨w0, _, _, rfl, W3 w0 mw, by omega, by omega, by omega, fun i H4 i0 i1 b4 w4 => ?_⟩
            have g4 := b4.fr f3.live mwn w4.lv
            have ne : a ≠ w0 := fun e => kj.1 (by rw [show (a, ws).1 = w0 from e]; exact mw)
            have o4 := oa.fr g4 fun o e => b4 _ _ e ne
            walk_at "rr"
            refine r_insO g4.live man o4 ((f3.trans g4).at_ hx) (by omega) i0 (by omega) fun H5 g5 b5 o5 => ?_
            have R4 := R3.keep g4 fun e m o q => b4 _ _ q fun z => (kc e m).1 (z ▸ mw)
            walk_at "rr"
            refine q _ pl H5 ((f3.trans g4).trans g5) (((sM b03).trans (sM (b4.buts mw))).trans fun c o e k => b5 c o e fun m => k (List.mem_cons_of_mem _ (List.mem_append_left _ (by rw [m]; exact mc)))) (((W3.draw b4 w4).but b5 kj.1).mono (by omega)) (R4.ins ej g5 b5 o5) ((d3.fr g4 fun o e => b4 _ _ e ndw).fr g5 fun o e => b5 _ _ e kj.2.1.symm) (.inr ⟨rfl, j, a, ws, i.toNat, ej, ma', rfl⟩)
        · obtain ⟨H3, e3⟩ : ∃ z, z = H2 := ⟨_, rfl⟩
          rw [← e3]
          have f3 : Fr ns H ns H3 := by rw [e3]; exact f2
          have W3 : Wls W (n + 1 + 30) H3 := by rw [e3]; exact W2.mono (by omega)
          have b03 : Buts W H H3 := by rw [e3]; exact b02
          have R3 := R.keep f3 fun e m o q => b03 _ _ q (kc e m).1
          have d3 := hd.fr f3 fun o q => b03 _ _ q ndW
          clear e3
          walk_at "rr"
          refine r_itF (by decide +kernel) ?_
          walk_at "rr"
          obtain ⟨j, ws, ej, man, oa⟩ := R3.at_ mc
          have mj := List.mem_of_getElem? ej
          have kj := kc _ mj
          refine oa.tyL ?_
          walk_at "rr"
          refine r_lenO oa ?_
          have lws : ws.length ≤ 1000 := kj.2.2
          walk_at "rr"
          refine ⟨w0, _, _, rfl, W3 w0 mw, by omega, by omega, by omega, fun i H4 i0 i1 b4 w4 => ?_⟩
          have g4 := b4.fr f3.live mwn w4.lv
          have ne : a ≠ w0 := fun e => kj.1 (by rw [show (a, ws).1 = w0 from e]; exact mw)
          have o4 := oa.fr g4 fun o e => b4 _ _ e ne
          walk_at "rr"
          refine r_insO g4.live man o4 ((f3.trans g4).at_ hx) (by omega) i0 (by omega) fun H5 g5 b5 o5 => ?_
          have R4 := R3.keep g4 fun e m o q => b4 _ _ q fun z => (kc e m).1 (z ▸ mw)
          walk_at "rr"
          refine q _ pl H5 ((f3.trans g4).trans g5) (((sM b03).trans (sM (b4.buts mw))).trans fun c o e k => b5 c o e fun m => k (List.mem_cons_of_mem _ (List.mem_append_left _ (by rw [m]; exact mc)))) (((W3.draw b4 w4).but b5 kj.1).mono (by omega)) (R4.ins ej g5 b5 o5) ((d3.fr g4 fun o e => b4 _ _ e ndw).fr g5 fun o e => b5 _ _ e kj.2.1.symm) (.inr ⟨rfl, j, a, ws, i.toNat, ej, ma', rfl⟩)
    · obtain ⟨H2, e2⟩ : ∃ z, z = H := ⟨_, rfl⟩
      rw [← e2]
      have f2 : Fr ns H ns H2 := by rw [e2]; exact .refl lv
      have W2 : Wls W (n + 1) H2 := by rw [e2]; exact hW.mono (by omega)
      have b02 : Buts W H H2 := by rw [e2]; exact .refl
      obtain ⟨a, ea⟩ : ∃ z, z = P := ⟨_, rfl⟩
      have mc : a ∈ cs.map (·.1) := by rw [ea]; exact mP
      have ma' : a = P ∨ a ∈ hs := .inl ea
      clear e2
      rw [← ea]
      walk_at "rr"
      refine r_d (fun hc1 => ?_) (fun hc1 => ?_)
      · walk_at "rr"
        refine ⟨w0, "", _, ns, rfl, f2.live, mwn, W2 w0 mw, by omega, .inr rfl, fun z H3 g3 b3 w3 nz => ?_⟩
        have f3 := f2.trans g3
        have W3 := W2.draw b3 w3
        have b03 := b02.trans (b3.buts mw)
        have R3 := R.keep f3 fun e m o q => b03 _ _ q (kc e m).1
        have d3 := hd.fr f3 fun o q => b03 _ _ q ndW
        walk_at "rr"
        refine r_nd (fun hz0 => ?_) (fun hz0 => ?_)
        · walk_at "rr"
          refine r_dninA d3.rd (at_str (isName_ok nz)) ?_
          walk_at "rr"
          refine r_nd (fun hin => ?_) (fun hin => ?_)
          · walk_at "rr"
            refine r_dputA f3.live md d3 (at_str (isName_ok nz)) (f3.at_ hx) (by omega) fun H4 f4 b4 d4 => ?_
            rw [putA_new hin] at d4
            walk_at "rr"
            refine q cs _ H4 (f3.trans f4) ((sM b03).trans fun c o e k => b4 c o e fun m => k (by rw [m]; exact List.mem_cons_self)) ((W3.but b4 ndW).mono (by omega)) (R3.keep f4 fun e m o q => b4 _ _ q (kc e m).2.1) d4 (.inl ⟨rfl, z, nz, hin, rfl⟩)
          · walk_at "rr"
            obtain ⟨j, ws, ej, man, oa⟩ := R3.at_ mc
            have mj := List.mem_of_getElem? ej
            have kj := kc _ mj
            refine oa.tyL ?_
            walk_at "rr"
            refine r_lenO oa ?_
            have lws : ws.length ≤ 1000 := kj.2.2
            walk_at "rr"
            refine ⟨w0, _, _, rfl, W3 w0 mw, by omega, by omega, by omega, fun i H4 i0 i1 b4 w4 => ?_⟩
            have g4 := b4.fr f3.live mwn w4.lv
            have ne : a ≠ w0 := fun e => kj.1 (by rw [show (a, ws).1 = w0 from e]; exact mw)
            have o4 := oa.fr g4 fun o e => b4 _ _ e ne
            walk_at "rr"
            refine r_insO g4.live man o4 ((f3.trans g4).at_ hx) (by omega) i0 (by omega) fun H5 g5 b5 o5 => ?_
            have R4 := R3.keep g4 fun e m o q => b4 _ _ q fun z => (kc e m).1 (z ▸ mw)
            walk_at "rr"
            refine q _ pl H5 ((f3.trans g4).trans g5) (((sM b03).trans (sM (b4.buts mw))).trans fun c o e k => b5 c o e fun m => k (List.mem_cons_of_mem _ (List.mem_append_left _ (by rw [m]; exact mc)))) (((W3.draw b4 w4).but b5 kj.1).mono (by omega)) (R4.ins ej g5 b5 o5) ((d3.fr g4 fun o e => b4 _ _ e ndw).fr g5 fun o e => b5 _ _ e kj.2.1.symm) (.inr ⟨rfl, j, a, ws, i.toNat, ej, ma', rfl⟩)
        · walk_at "rr"
          obtain ⟨j, ws, ej, man, oa⟩ := R3.at_ mc
          have mj := List.mem_of_getElem? ej
          have kj := kc _ mj
          refine oa.tyL ?_
          walk_at "rr"
          refine r_lenO oa ?_
          have lws : ws.length ≤ 1000 := kj.2.2
          walk_at "rr"
          refine ⟨w0, _, _, rfl, W3 w0 mw, by omega, by omega, by omega, fun i H4 i0 i1 b4 w4 => ?_⟩
          have g4 := b4.fr f3.live mwn w4.lv
          have ne : a ≠ w0 := fun e => kj.1 (by rw [show (a, ws).1 = w0 from e]; exact mw)
          have o4 := oa.fr g4 fun o e => b4 _ _ e ne
          walk_at "rr"
          refine r_insO g4.live man o4 ((f3.trans g4).at_ hx) (by omega) i0 (by omega) fun H5 g5 b5 o5 => ?_
          have R4 := R3.keep g4 fun e m o q => b4 _ _ q fun z => (kc e m).1 (z ▸ mw)
          walk_at "rr"
          refine q _ pl H5 ((f3.trans g4).trans g5) (((sM b03).trans (sM (b4.buts mw))).trans fun c o e k => b5 c o e fun m => k (List.mem_cons_of_mem _ (List.mem_append_left _ (by rw [m]; exact mc)))) (((W3.draw b4 w4).but b5 kj.1).mono (by omega)) (R4.ins ej g5 b5 o5) ((d3.fr g4 fun o e => b4 _ _ e ndw).fr g5 fun o e => b5 _ _ e kj.2.1.symm) (.inr ⟨rfl, j, a, ws, i.toNat, ej, ma', rfl⟩)
      · obtain ⟨H3, e3⟩ : ∃ z, z = H2 := ⟨_, rfl⟩
        rw [← e3]
        have f3 : Fr ns H ns H3 := by rw [e3]; exact f2
        have W3 : Wls W (n + 1 + 30) H3 := by rw [e3]; exact W2.mono (by omega)
        have b03 : Buts W H H3 := by rw [e3]; exact b02
        have R3 := R.keep f3 fun e m o q => b03 _ _ q (kc e m).1
        have d3 := hd.fr f3 fun o q => b03 _ _ q ndW
        clear e3
        walk_at "rr"
        refine r_itF (by decide +kernel) ?_
        walk_at "rr"
        obtain ⟨j, ws, ej, man, oa⟩ := R3.at_ mc
        have mj := List.mem_of_getElem? ej
        have kj := kc _ mj
        refine oa.tyL ?_
        walk_at "rr"
        refine r_lenO oa ?_
        have lws : ws.length ≤ 1000 := kj.2.2
        walk_at "rr"
        refine ⟨w0, _, _, rfl, W3 w0 mw, by omega, by omega, by omega, fun i H4 i0 i1 b4 w4 => ?_⟩
        have g4 := b4.fr f3.live mwn w4.lv
        have ne : a ≠ w0 := fun e => kj.1 (by rw [show (a, ws).1 = w0 from e]; exact mw)
        have o4 := oa.fr g4 fun o e => b4 _ _ e ne
        walk_at "rr"
        refine r_insO g4.live man o4 ((f3.trans g4).at_ hx) (by omega) i0 (by omega) fun H5 g5 b5 o5 => ?_
        have R4 := R3.keep g4 fun e m o q => b4 _ _ q fun z => (kc e m).1 (z ▸ mw)
        walk_at "rr"
        refine q _ pl H5 ((f3.trans g4).trans g5) (((sM b03).trans (sM (b4.buts mw))).trans fun c o e k => b5 c o e fun m => k (List.mem_cons_of_mem _ (List.mem_append_left _ (by rw [m]; exact mc)))) (((W3.draw b4 w4).but b5 kj.1).mono (by omega)) (R4.ins ej g5 b5 o5) ((d3.fr g4 fun o e => b4 _ _ e ndw).fr g5 fun o e => b5 _ _ e kj.2.1.symm) (.inr ⟨rfl, j, a, ws, i.toNat, ej, ma', rfl⟩)
/-! ### _law_picture -/
abbrev s__law_picture : Stmt := top 34
theorem sc__law_picture : FnScope ["cells", "most", "head", "parts", "many", "k", "wells", "sides", "names", "rows", "places", "some", "size", "pile", "pegs", "name", "hosts", "where", "goings", "boxes", "well", "j", "row"] ["cells", "most"] (defScope s__law_picture) := ⟨rfl, rfl, rfl, by decide +kernel, rfl, by decide +kernel, by decide +kernel⟩
def sp__law_picture (K : PySem.W.Frag) : Sp := fun vs H Q _ => ∃ (a : Addr) (cs : List Int) (most : Int) (ns : List Addr), vs = [.ref a, .int most] ∧ SqL K H a (cs.map V.int) ∧ cs.length ≤ 63 ∧ 0 ≤ most ∧ most ≤ 40 ∧ Live ns H ∧
  ∀ (r : Addr) p H', H r = none → Same H H' → At (del ns H') (.ref r) p → GoodPic p → p.a.length ≤ 300 → (standingP p).length ≤ 5000 → p.c.length ≤ 40 → p.d.length ≤ 40 → Q (.ref r) H'
theorem ok__law_picture {fa : Addr} {fd : FuncData} (F : Fun K "_law_picture" "_law_picture" s__law_picture fa fd) (TX : Tx mg)
    (C__law_cell_at : Cal P w K mg base CX0 1 "_law_cell_at" ["script", "k"] (sp__law_cell_at K))
    (C__law_draw : Cal P w K mg base CX0 2 "_law_draw" ["well", "many"] (sp__law_draw K))
    (C__law_hold : Cal P w K mg base CX0 4 "_law_hold" ["well", "where", "thing", "pile", "pegs", "hosts"] (sp__law_hold K))
    (C__law_name : Cal P w K mg base CX0 3 "_law_name" ["well", "last"] (sp__law_name K))
    (C__law_numbered : Cal P w K mg base CX0 3 "_law_numbered" ["wells"] (sp__law_numbered K))
    (C__law_well : Cal P w K mg base CX0 2 "_law_well" ["cell", "k"] (sp__law_well K))
    (C__law_worth : Cal P w K mg base CX0 3 "_law_worth" ["well", "some"] (sp__law_worth K)) :
    FnOk P w K mg base CX0 5 fa fd ["cells", "most"] (sp__law_picture K) := by
  refine F.ok sc__law_picture (fun vs H Q E h => ?_) (fun cdv A outer s H vs Q E hr h => ?_)
  · obtain ⟨a, cs, most, ns, rfl, hS, hl, mo0, mo1, lv, q⟩ := h
    rfl
  · obtain ⟨a, cs, most, ns, rfl, hS, hl, mo0, mo1, lv, q⟩ := h
    have hu := hu_of hr
    have hu64 := hr.units
    have hu65 := hu65_of hr
    refine ⟨_, (pss_cons (ps_set (i := 2) sc__law_picture.nd rfl (Or.inr rfl) (pe_cal C__law_well (hr.mono (by decide)) (by rfl) pass0 (pa_cons (pe_cal C__law_cell_at (hr.mono (by decide)) (by rfl) pass0 (pa_cons (pv 0) (pa_cons pe_int pa_nil))) (pa_cons pe_int pa_nil))))
  (pss_cons (ps_set (i := 3) sc__law_picture.nd rfl (Or.inr rfl) (pe_op op_add pe_int (pe_cal C__law_draw (hr.mono (by decide)) (by rfl) pass0 (pa_cons (pv 2) (pa_cons pe_int pa_nil)))))
  (pss_cons (ps_set (i := 4) sc__law_picture.nd rfl (Or.inl rfl) (pe_callB (call_min2 rfl) (by rfl) TX.n_min (by decide +kernel) (pa_cons (pv 1) (pa_cons (pe_op op_add (pe_cal C__law_draw (hr.mono (by decide)) (by rfl) pass0 (pa_cons (pv 2) (pa_cons pe_int pa_nil))) (pe_callB (call_max2 rfl) (by rfl) TX.n_max (by decide +kernel) (pa_cons pe_int (pa_cons (pe_op op_sub (pe_callB call_len (by rfl) TX.n_len (by decide +kernel) (pa_cons (pv 0) pa_nil)) pe_int) pa_nil)))) pa_nil))))
  (pss_cons (ps_set (i := 6) sc__law_picture.nd rfl (Or.inr rfl) (pe_lc (own := [("k", 5)]) (g := gName 5) (tt := tYes) rfl sc__law_picture.nd (pi_range1 (by rfl) TX.range (pa_cons (pv 4) pa_nil)) (blkOk_by (own := [("k", 5)]) (N := ["cells", "most", "head", "parts", "many", "k", "wells", "sides", "names", "rows", "places", "some", "size", "pile", "pegs", "name", "hosts", "where", "goings", "boxes", "well", "j", "row"]) (sc := defScope s__law_picture) (by decide +kernel)) (fun _ _ _ _ _ => (pg_name (i := 5) sc__law_picture.nd rfl (Or.inl rfl))) (fun _ _ _ _ _ => pts_nil) (fun _ _ _ _ _ => (pe_cal C__law_well (hr.mono (by decide)) (by rfl) pass0 (pa_cons (pe_cal C__law_cell_at (hr.mono (by decide)) (by rfl) pass0 (pa_cons (pv 0) (pa_cons (pe_op op_add pe_int (pv 5)) pa_nil))) (pa_cons (pv 5) pa_nil))))))
  (pss_cons (ps_set (i := 7) sc__law_picture.nd rfl (Or.inr rfl) (pe_lc (own := [("well", 20)]) (g := gName 20) (tt := tYes) rfl sc__law_picture.nd (pi_list (pv 6)) (blkOk_by (own := [("well", 20)]) (N := ["cells", "most", "head", "parts", "many", "k", "wells", "sides", "names", "rows", "places", "some", "size", "pile", "pegs", "name", "hosts", "where", "goings", "boxes", "well", "j", "row"]) (sc := defScope s__law_picture) (by decide +kernel)) (fun _ _ _ _ _ => (pg_name (i := 20) sc__law_picture.nd rfl (Or.inl rfl))) (fun _ _ _ _ _ => pts_nil) (fun _ _ _ _ _ => (pe_cal C__law_draw (hr.mono (by decide)) (by rfl) pass0 (pa_cons (pv 20) (pa_cons (pv 3) pa_nil))))))
  (pss_cons (ps_set (i := 8) sc__law_picture.nd rfl (Or.inr rfl) (pe_cal C__law_numbered (hr.mono (by decide)) (by rfl) pass0 (pa_cons (pv 6) pa_nil)))
  (pss_cons (ps_set (i := 9) sc__law_picture.nd rfl (Or.inr rfl) (pe_lst pa_nil))
  (pss_cons (ps_set (i := 10) sc__law_picture.nd rfl (Or.inr rfl) (pe_lst pa_nil))
  (pss_cons (ps_for PassesOwn.never rfl (pi_range1 (by rfl) TX.range (pa_cons (pv 4) pa_nil)) (pg_name (i := 5) sc__law_picture.nd rfl (Or.inr rfl))
  (pss_cons (ps_set (i := 11) sc__law_picture.nd rfl (Or.inr rfl) (pe_lc (own := [("j", 21)]) (g := gName 21) rfl sc__law_picture.nd (pi_range1 (by rfl) TX.range (pa_cons (pv 4) pa_nil)) (blkOk_by (own := [("j", 21)]) (N := ["cells", "most", "head", "parts", "many", "k", "wells", "sides", "names", "rows", "places", "some", "size", "pile", "pegs", "name", "hosts", "where", "goings", "boxes", "well", "j", "row"]) (sc := defScope s__law_picture) (by decide +kernel)) (fun _ _ _ _ _ => (pg_name (i := 21) sc__law_picture.nd rfl (Or.inl rfl))) (fun _ _ _ _ _ => pts_one (pt_cmpR op_le (pe_ix (kIxR (rIxL K) ix_list rfl) (pv 7) (pv 21) (fun _ _ => rfl)) (pe_ix (kIxR (rIxL K) ix_list rfl) (pv 7) (pv 5) (fun _ _ => rfl)) (nomark _))) (fun _ _ _ _ _ => (pe_ix (kIxR (rIxL K) ix_list rfl) (pv 8) (pv 21) (fun _ _ => rfl)))))
  (pss_cons (ps_expr (pe_bm PySem.F.plainAttrs_list PySem.F.slot_list_append PySem.F.type_list_append mt_append (pv 10) (pa_cons (pe_cal C__law_draw (hr.mono (by decide)) (by rfl) pass0 (pa_cons (pe_ix ix_list (pv 6) (pv 5) (fun _ _ => rfl)) (pa_cons (pe_ix ix_list (pe_lst (pa_cons pe_int (pa_cons (pe_op op_pow pe_int pe_int) pa_nil))) (pe_cal C__law_draw (hr.mono (by decide)) (by rfl) pass0 (pa_cons (pe_ix ix_list (pv 6) (pv 5) (fun _ _ => rfl)) (pa_cons pe_int pa_nil))) (fun _ _ => rfl)) pa_nil))) pa_nil)))
  (pss_cons (ps_set (i := 12) sc__law_picture.nd rfl (Or.inl rfl) pe_int)
  (pss_cons (ps_if (pt_cmpR op_eq (pe_ix ix_tup (pe_ix ix_list (pv 8) (pv 5) (fun _ _ => rfl)) pe_int (fun _ _ => rfl)) pe_str (nomark _)) (pss_one (ps_set (i := 12) sc__law_picture.nd rfl (Or.inl rfl) (pe_cal C__law_draw (hr.mono (by decide)) (by rfl) pass0 (pa_cons (pe_ix ix_list (pv 6) (pv 5) (fun _ _ => rfl)) (pa_cons pe_int pa_nil))))) pss_nil)
  (pss_one (ps_expr (pe_bm PySem.F.plainAttrs_list PySem.F.slot_list_append PySem.F.type_list_append mt_append (pv 9) (pa_cons (pe_lc (own := [("j", 21)]) (g := gName 21) (tt := tYes) rfl sc__law_picture.nd (pi_range1 (by rfl) TX.range (pa_cons (pv 12) pa_nil)) (blkOk_by (own := [("j", 21)]) (N := ["cells", "most", "head", "parts", "many", "k", "wells", "sides", "names", "rows", "places", "some", "size", "pile", "pegs", "name", "hosts", "where", "goings", "boxes", "well", "j", "row"]) (sc := defScope s__law_picture) (by decide +kernel)) (fun _ _ _ _ _ => (pg_name (i := 21) sc__law_picture.nd rfl (Or.inl rfl))) (fun _ _ _ _ _ => pts_nil) (fun _ _ _ _ _ => (pe_cal C__law_worth (hr.mono (by decide)) (by rfl) pass0 (pa_cons (pe_ix (kIxR (rIxL K) ix_list rfl) (pv 6) (pv 5) (fun _ _ => rfl)) (pa_cons (pv 11) pa_nil))))) pa_nil)))))))))
  (pss_cons (ps_set (i := 11) sc__law_picture.nd rfl (Or.inr rfl) (pe_lc (own := [("j", 21)]) (g := gName 21) rfl sc__law_picture.nd (pi_range1 (by rfl) TX.range (pa_cons (pv 4) pa_nil)) (blkOk_by (own := [("j", 21)]) (N := ["cells", "most", "head", "parts", "many", "k", "wells", "sides", "names", "rows", "places", "some", "size", "pile", "pegs", "name", "hosts", "where", "goings", "boxes", "well", "j", "row"]) (sc := defScope s__law_picture) (by decide +kernel)) (fun _ _ _ _ _ => (pg_name (i := 21) sc__law_picture.nd rfl (Or.inl rfl))) (fun _ _ _ _ _ => pts_one (pt_cmpR op_eq (pe_ix (kIxR (rIxL K) ix_list rfl) (pv 7) (pv 21) (fun _ _ => rfl)) pe_int (nomark _))) (fun _ _ _ _ _ => (pe_ix (kIxR (rIxL K) ix_list rfl) (pv 8) (pv 21) (fun _ _ => rfl)))))
  (pss_cons (ps_setLc (i := 13) (own := [("j", 21)]) (g := gName 21) (tt := tYes) rfl sc__law_picture.nd rfl rfl (sw_true rfl rfl rfl (by decide +kernel)) (pi_range1 (by rfl) TX.range (pa_cons (pe_cal C__law_draw (hr.mono (by decide)) (by rfl) pass0 (pa_cons (pv 2) (pa_cons pe_int pa_nil))) pa_nil)) (blkOk_by (own := [("j", 21)]) (N := ["cells", "most", "head", "parts", "many", "k", "wells", "sides", "names", "rows", "places", "some", "size", "pile", "pegs", "name", "hosts", "where", "goings", "boxes", "well", "j", "row"]) (sc := defScope s__law_picture) (by decide +kernel)) (fun _ _ _ _ _ => (pg_name (i := 21) sc__law_picture.nd rfl (Or.inl rfl))) (fun _ _ _ _ _ => pts_nil) (fun _ _ _ _ _ => (pe_cal C__law_worth (hr.mono (by decide)) (by rfl) pass0 (pa_cons (pv 2) (pa_cons (pv 11) pa_nil)))))
  (pss_cons (ps_set (i := 14) sc__law_picture.nd rfl (Or.inl rfl) pe_dnewK)
  (pss_cons (ps_set (i := 15) sc__law_picture.nd rfl (Or.inl rfl) pe_str)
  (pss_cons (ps_for PassesOwn.never rfl (pi_range1 (by rfl) TX.range (pa_cons (pe_cal C__law_draw (hr.mono (by decide)) (by rfl) pass0 (pa_cons (pv 2) (pa_cons pe_int pa_nil))) pa_nil)) (pg_name (i := 5) sc__law_picture.nd rfl (Or.inr rfl))
  (pss_cons (ps_set (i := 15) sc__law_picture.nd rfl (Or.inl rfl) (pe_cal C__law_name (hr.mono (by decide)) (by rfl) pass0 (pa_cons (pv 2) (pa_cons (pv 15) pa_nil))))
  (pss_one (ps_dput hu (pv 14) (pv 15) (pe_cal C__law_worth (hr.mono (by decide)) (by rfl) pass0 (pa_cons (pv 2) (pa_cons (pv 11) pa_nil))) rfl))))
  (pss_cons (ps_for PassesOwn.never rfl (pi_range1 (by rfl) TX.range (pa_cons (pv 4) pa_nil)) (pg_name (i := 5) sc__law_picture.nd rfl (Or.inr rfl))
  (pss_one (ps_if (PW.pt (pw_and (pt_cmpR (op_notInD hu65) (pe_ix ix_list (pv 8) (pv 5) (fun _ _ => rfl)) (pe_op op_cat (pv 13) (pe_callTy (call_listVals rfl) (by rfl) TX.n_list (by decide +kernel) (pa_cons (pe_bm0 PySem.F.plainAttrs_dict PySem.F.slot_dict_values PySem.F.type_dict_values mt_valuesK (pv 14)) pa_nil))) (by rfl)) (pw_and1 (pt_not (pt_val (pe_callB (cr_any rfl) (by rfl) TX.n_any (by decide +kernel) (pa_cons (pe_lc (own := [("row", 22)]) (g := gName 22) (tt := tYes) rfl sc__law_picture.nd (pi_list (pv 9)) (blkOk_by (own := [("row", 22)]) (N := ["cells", "most", "head", "parts", "many", "k", "wells", "sides", "names", "rows", "places", "some", "size", "pile", "pegs", "name", "hosts", "where", "goings", "boxes", "well", "j", "row"]) (sc := defScope s__law_picture) (by decide +kernel)) (fun _ _ _ _ _ => (pg_name (i := 22) sc__law_picture.nd rfl (Or.inl rfl))) (fun _ _ _ _ _ => pts_nil) (fun _ _ _ _ _ => (pe_cmpR (kOpR (rInD K) (op_inD hu65) rfl) (pe_ix (kIxR (rIxL K) ix_list rfl) (pv 8) (pv 5) (fun _ _ => rfl)) (pv 22) (by rfl)))) pa_nil))))))) (pss_cons (ps_setLc (i := 16) (own := [("j", 21)]) (g := gName 21) rfl sc__law_picture.nd rfl rfl (sw_true rfl rfl rfl (by decide +kernel)) (pi_range1 (by rfl) TX.range (pa_cons (pv 4) pa_nil)) (blkOk_by (own := [("j", 21)]) (N := ["cells", "most", "head", "parts", "many", "k", "wells", "sides", "names", "rows", "places", "some", "size", "pile", "pegs", "name", "hosts", "where", "goings", "boxes", "well", "j", "row"]) (sc := defScope s__law_picture) (by decide +kernel)) (fun _ _ _ _ _ => (pg_name (i := 21) sc__law_picture.nd rfl (Or.inl rfl))) (fun _ _ _ _ _ => pts_one (PW.pt (pw_and (pt_cmpR op_eq (pe_ix (kIxR (rIxT K) ix_tup rfl) (pe_ix (kIxR (rIxL K) ix_list rfl) (pv 8) (pv 21) (fun _ _ => rfl)) pe_int (fun _ _ => rfl)) pe_str (nomark _)) (pw_and1 (pt_cmpR op_eq (pe_ix (kIxR (rIxL K) ix_list rfl) (pv 7) (pv 21) (fun _ _ => rfl)) (pe_ix (kIxR (rIxL K) ix_list rfl) (pv 7) (pv 5) (fun _ _ => rfl)) (nomark _)))))) (fun _ _ _ _ _ => (pe_ix (kIxR (rIxL K) ix_list rfl) (pv 9) (pv 21) (fun _ _ => rfl))))
  (pss_cons (ps_set (i := 17) sc__law_picture.nd rfl (Or.inl rfl) (pe_ix ix_list (pe_lst (pa_cons (pe_cal C__law_draw (hr.mono (by decide)) (by rfl) pass0 (pa_cons (pe_ix ix_list (pv 6) (pv 5) (fun _ _ => rfl)) (pa_cons pe_int pa_nil))) (pa_cons pe_int pa_nil))) (pe_ix ix_list (pv 7) (pv 5) (fun _ _ => rfl)) (fun _ _ => rfl)))
  (pss_one (ps_expr (pe_cal C__law_hold (hr.mono (by decide)) (by rfl) pass0 (pa_cons (pe_ix ix_list (pv 6) (pv 5) (fun _ _ => rfl)) (pa_cons (pv 17) (pa_cons (pe_ix ix_list (pv 8) (pv 5) (fun _ _ => rfl)) (pa_cons (pv 13) (pa_cons (pv 14) (pa_cons (pv 16) pa_nil))))))))))) pss_nil)))
  (pss_cons (ps_setLc (i := 18) (own := [("k", 5)]) (g := gName 5) rfl sc__law_picture.nd rfl rfl (sw_true rfl rfl rfl (by decide +kernel)) (pi_range1 (by rfl) TX.range (pa_cons (pv 4) pa_nil)) (blkOk_by (own := [("k", 5)]) (N := ["cells", "most", "head", "parts", "many", "k", "wells", "sides", "names", "rows", "places", "some", "size", "pile", "pegs", "name", "hosts", "where", "goings", "boxes", "well", "j", "row"]) (sc := defScope s__law_picture) (by decide +kernel)) (fun _ _ _ _ _ => (pg_name (i := 5) sc__law_picture.nd rfl (Or.inl rfl))) (fun _ _ _ _ _ => pts_one (pt_cmpR op_eq (pe_ix (kIxR (rIxT K) ix_tup rfl) (pe_ix (kIxR (rIxL K) ix_list rfl) (pv 8) (pv 5) (fun _ _ => rfl)) pe_int (fun _ _ => rfl)) pe_str (nomark _))) (fun _ _ _ _ _ => (pe_tup (pa_cons (pe_ix (kIxR (rIxT K) ix_tup rfl) (pe_ix (kIxR (rIxL K) ix_list rfl) (pv 8) (pv 5) (fun _ _ => rfl)) pe_int (fun _ _ => rfl)) (pa_cons (pe_ix (kIxR (rIxL K) ix_list rfl) (pv 10) (pv 5) (fun _ _ => rfl)) (pa_cons (pe_ix (kIxR (rIxL K) ix_list rfl) (pv 9) (pv 5) (fun _ _ => rfl)) pa_nil))))))
  (pss_cons (ps_setLc (i := 19) (own := [("k", 5)]) (g := gName 5) rfl sc__law_picture.nd rfl rfl (sw_true rfl rfl rfl (by decide +kernel)) (pi_range1 (by rfl) TX.range (pa_cons (pv 4) pa_nil)) (blkOk_by (own := [("k", 5)]) (N := ["cells", "most", "head", "parts", "many", "k", "wells", "sides", "names", "rows", "places", "some", "size", "pile", "pegs", "name", "hosts", "where", "goings", "boxes", "well", "j", "row"]) (sc := defScope s__law_picture) (by decide +kernel)) (fun _ _ _ _ _ => (pg_name (i := 5) sc__law_picture.nd rfl (Or.inl rfl))) (fun _ _ _ _ _ => pts_one (pt_cmpR op_eq (pe_ix (kIxR (rIxT K) ix_tup rfl) (pe_ix (kIxR (rIxL K) ix_list rfl) (pv 8) (pv 5) (fun _ _ => rfl)) pe_int (fun _ _ => rfl)) pe_str (nomark _))) (fun _ _ _ _ _ => (pe_tup (pa_cons (pe_ix (kIxR (rIxT K) ix_tup rfl) (pe_ix (kIxR (rIxL K) ix_list rfl) (pv 8) (pv 5) (fun _ _ => rfl)) pe_int (fun _ _ => rfl)) (pa_cons (pe_ix (kIxR (rIxL K) ix_list rfl) (pe_ix (kIxR (rIxL K) ix_list rfl) (pv 9) (pv 5) (fun _ _ => rfl)) pe_int (fun _ _ => rfl)) pa_nil)))))
  (pss_one (ps_ret (pe_tup (pa_cons (pv 13) (pa_cons (pe_callB (cr_sortedItK rfl hu64) (by rfl) TX.n_sorted (by decide +kernel) (pa_cons (pe_bm0 PySem.F.plainAttrs_dict PySem.F.slot_dict_items PySem.F.type_dict_items mt_itemsK (pv 14)) pa_nil)) (pa_cons (pv 18) (pa_cons (pv 19) pa_nil)))))))))))))))))))))))), ?_⟩
    refine r_begin (show L2.start _ _ = [some _, some _, none, none, none, none, none, none, none, none, none, none, none, none, none, none, none, none, none, none, none, none, none] from rfl) ?_
    try dsimp only [cxOf]
    walk_at "rr"
    refine ⟨a, cs, 0, rfl, hS, by decide, hl, fun c => ?_⟩
    walk_at "rr"
    refine ⟨c, 63, rfl, by decide, by decide, fun w0 H1 hw0 s1 W0 => ?_⟩
    walk_at "rr"
    refine ⟨w0, 2, _, rfl, W0, by decide, by decide, by decide, fun d2 H2 p0 p1 b2 W2 => ?_⟩
    have s2 : Same H H2 := But.back s1 hw0 b2
    walk_at "rr"
    refine ⟨w0, 6, _, rfl, W2, by decide, by decide, by decide, fun d6 H3 m0 m1 b3 W3 => ?_⟩
    have s3 : Same H H3 := But.back s2 hw0 b3
    walk_at "rr"
    refine ⟨_, _, rfl, .inl ⟨_, s3.seq hS, rfl⟩, ?_⟩
    rw [List.length_map]
    walk_at "rr"
    refine ⟨_, _, rfl, ?_⟩
    walk_at "rr"
    refine ⟨_, _, rfl, ?_⟩
    refine gz_name (by (repeat' split) <;> omega) fun m hm => ?_
    walk_at "rr"
    rw [Int.toNat_natCast]
    refine C_range (fun D i H4 => H3 D = none ∧ Same H3 H4 ∧ ∃ wa : List Addr, H4 D = some (.lst (wa.map .ref)) ∧ wa.length = i ∧ ∀ p ∈ wa, WellAt H4 p 0 ∧ H3 p = none ∧ p ≠ D) (fun D hD => ⟨hD, same_new hD, [], upd_same, rfl, fun p m => by cases m⟩) ?_ ?_
    · rintro D i H4 hi ⟨hD, s4, wa, eD, lw, hw⟩
      walk_at "rr"
      refine ⟨a, cs, _, rfl, (s3.trans s4).seq hS, by omega, hl, fun c => ?_⟩
      walk_at "rr"
      refine ⟨c, _, rfl, by omega, by omega, fun p H5 hp s5 W5 => ?_⟩
      have eD5 := s5 _ _ eD
      have npD : p ≠ D := fun e => by rw [e, eD] at hp; cases hp
      refine ⟨_, eD5, szl (by rw [List.length_map]; omega), hD, Same.own (s4.trans s5) hD, wa ++ [p], by rw [upd_same, List.map_append]; rfl, by rw [List.length_append, lw]; rfl, fun r mr => ?_⟩
      have up : ∀ {r n}, r ≠ D → WellAt H5 r n → WellAt (upd H5 D (.lst (wa.map .ref ++ [V.ref p]))) r n := by
        rintro r n ne ⟨x, y, z, e, k⟩
        exact ⟨x, y, z, by rw [upd_ne ne]; exact e, k⟩
      rcases List.mem_append.mp mr with mr | mr
      · exact ⟨up (hw r mr).2.2 ((hw r mr).1.same s5), (hw r mr).2⟩
      · rw [List.mem_singleton.mp mr]
        exact ⟨up npD W5, s4.free hp, npD⟩
    rintro wl H4 hwl ⟨-, s4, wa, ewl, lwa, hwa⟩
    have s04 := s3.trans s4
    obtain ⟨W, eW⟩ : ∃ W, W = w0 :: wa := ⟨_, rfl⟩
    have nW : ∀ p ∈ W, H p = none := by
      intro p mp
      rw [eW] at mp
      rcases List.mem_cons.mp mp with rfl | mp
      · exact hw0
      · exact s3.free (hwa p mp).2.1
    have W4 : Wls W 10 H4 := by
      intro p mp
      rw [eW] at mp
      rcases List.mem_cons.mp mp with rfl | mp
      · exact (W3.same s4).mono (by omega)
      · exact (hwa p mp).1.mono (by omega)
    have f4 : Fr ns H (W ++ ns) H4 := .mores lv s04 nW W4.lv
    have mw0 : w0 ∈ W := by rw [eW]; exact List.mem_cons_self
    have mwa : ∀ p ∈ wa, p ∈ W := fun p mp => by rw [eW]; exact List.mem_cons_of_mem _ mp
    have sWn : ∀ p ∈ W, p ∈ W ++ ns := fun p mp => List.mem_append_left _ mp
    have nwl : wl ∉ W ++ ns := by
      intro mp
      rcases List.mem_append.mp mp with mp | mp
      · rw [eW] at mp
        rcases List.mem_cons.mp mp with e | mp
        · have := W3.there
          rw [← e, hwl] at this
          exact this rfl
        · exact (hwa wl mp).2.2 rfl
      · exact lv.not (s3.free hwl) mp
    have hwl4 : WellsAt (W ++ ns) H4 (.ref wl) wa := ⟨wl, rfl, del_at ewl nwl⟩
    clear eW hwa ewl nwl
    walk_at "rr"
    refine CW (γ := Int) f4.live hwl4 (fun i H' => Wls W (10 + i) H' ∧ Buts W H4 H') (fun i zs => zs.length = i ∧ ∀ z ∈ zs, 0 ≤ z ∧ z < 1 + d2) ⟨rfl, fun z m => by cases m⟩ ⟨W4, .refl⟩ (fun i D o H' hD nD e => ⟨e.1.upd fun m => nD (sWn _ m), e.2.own hD⟩) ?_ ?_
    · rintro D i p zs H5 ep k
      obtain ⟨w5, b5⟩ := k.ex
      have mp := mwa p (List.mem_of_getElem? ep)
      walk_at "rr"
      refine ⟨p, _, _, rfl, w5 p mp, by omega, by omega, by have := (List.getElem?_eq_some_iff.mp ep).1; omega, fun z H6 z0 z1 b6 w6 => ?_⟩
      have hi := (List.getElem?_eq_some_iff.mp ep).1
      refine k.put (b6.fr (k.lv.sub fun _ m => List.mem_cons_of_mem _ m) (sWn _ mp) w6.lv) ⟨w5.draw b6 w6, b5.trans (b6.buts mp)⟩ (at_int (n := z)) ⟨by rw [List.length_append, k.r.1]; rfl, fun y my => ?_⟩ (by omega) (fun o e => ⟨e.1.upd fun m => k.out (sWn _ m), e.2.own k.D0⟩)
      rcases List.mem_append.mp my with my | my
      · exact k.r.2 y my
      · rw [List.mem_singleton.mp my]
        exact ⟨z0, z1⟩
    rintro sd H5 sides hsd f5 ⟨W5, b5⟩ ⟨lsd, ksd⟩ _ hsides
    have f05 := f4.trans f5
    have s05 : Same H H5 := fun b o e => b5 _ _ (s04 _ _ e) fun mb => by rw [nW b mb] at e; cases e
    walk_at "rr"
    refine ⟨_, W, wa, _, W ++ ns, rfl, f5.live, sWn, W5, hwl4.fr f5, mwa, by omega, by omega, fun nmv names xb yb H6 f6 b6 W6 hnm no lnm => ?_⟩
    have f06 := f05.trans f6
    have s06 : Same H H6 := fun b o e => b6 _ _ (s05 _ _ e) fun mb => by rw [nW b mb] at e; cases e
    have hsides6 := f6.at_ hsides
    have hwl6 := (hwl4.fr f5).fr f6
    rw [lwa] at lnm lsd
    have W6 : Wls W 500 H6 := W6.mono (by omega)
    clear W5 W4 hsides f5 f6 b5 b6 hwl4 hsd
    walk_at "rr"
    refine ⟨Nat.zero_le _, fun R hR => ?_⟩
    have eR : (upd H6 R (.lst [])) R = some (.lst (([] : List Addr).reverse.map V.ref)) := upd_same
    have s7 := same_new (o := .lst []) hR
    have f7 : Fr (W ++ ns) H6 (R :: (W ++ ns)) (upd H6 R (.lst [])) := .mkO f06.live hR (fun _ e => by cases e)
    have W7 : Wls W 500 (upd H6 R (.lst [])) := W6.same s7
    have nRW : R ∉ W ++ ns := f06.live.not hR
    generalize upd H6 R (.lst []) = H7 at eR s7 f7 W7 ⊢
    walk_at "rr"
    refine r_lstO (as := ([] : List Int)) f7.live .nil (by decide) fun P H8 hP s8 f8 o8 => ?_
    have eR8 := s8 _ _ eR
    have nRP : R ≠ P := ne_of_none eR hP
    have nPW : P ∉ W ++ ns := fun mp => f7.live.not hP (List.mem_cons_of_mem _ mp)
    have s08 := (s06.trans s7).trans s8
    have f68 := f7.trans f8
    have W8 := W7.same s8
    have hR0 : H R = none := s06.free hR
    have hP0 : H P = none := (s06.trans s7).free hP
    have hnm8 := f68.at_ hnm
    have hsides8 := f68.at_ hsides6
    have hwl8 := hwl6.fr f68
    have f08 := f06.trans f68
    have sWb : ∀ p ∈ W, p ∈ P :: R :: (W ++ ns) := fun p mp => List.mem_cons_of_mem _ (List.mem_cons_of_mem _ (sWn p mp))
    clear f68 f7 f8 s7 s8 W7 W6 eR hnm hsides6 hwl6
    obtain ⟨B, eB⟩ : ∃ B, B = P :: R :: (W ++ ns) := ⟨_, rfl⟩
    have mPB : P ∈ B := by rw [eB]; exact List.mem_cons_self
    have mRB : R ∈ B := by rw [eB]; exact List.mem_cons_of_mem _ List.mem_cons_self
    rw [← eB] at o8 f08 hnm8 hsides8 hwl8 sWb
    have nPw : P ∉ W := fun m => nPW (sWn _ m)
    have nRw : R ∉ W := fun m => nRW (sWn _ m)
    walk_at "rr"
    rw [Int.toNat_natCast]
    refine L_range (fun k σ H9 => ∃ (u5 u11 u12 : Option V) (rr : List Addr) (rs : List (Addr × List Wo)) (pls : List Int), σ = [some (.ref a), some (.int most), some (.ref w0), some (.int (1 + d2)), some (.int (m : Nat)), u5, some (.ref wl), some (.ref sd), some nmv, some (.ref R), some (.ref P), u11, u12, none, none, none, none, none, none, none, none, none, none] ∧
        Same H H9 ∧ Fr B H8 (rr ++ B) H9 ∧ Wls W (500 + 60 * k) H9 ∧ H9 R = some (.lst (rr.reverse.map V.ref)) ∧ Own (rr ++ B) H9 P pls ∧ Rows (rr ++ B) H9 rs ∧ rs.map (·.1) = rr.reverse ∧ rs.length = k ∧ pls.length = k ∧ (∀ z ∈ pls, 0 ≤ z) ∧
        (∀ b ∈ rr, H8 b = none) ∧ (∀ (i : Nat) (e : Addr × List Wo) (w : Wo), rs[i]? = some e → names[i]? = some w → e.2.length ≤ 4 ∧ (w.1 = "box" → e.2.length = 1) ∧ ∀ x ∈ e.2, x ∈ names ∨ Pl x))
      ⟨_, _, _, [], [], [], rfl, s08, .refl f08.live, W8, eR8, o8, ⟨fun e me => (by cases me), .nil⟩, rfl, rfl, rfl, fun z mz => (by cases mz), fun b mb => (by cases mb), fun i e w h => (by cases h)⟩ ?_ ?_
    · rintro k σ H9 hk ⟨u5, u11, u12, rr, rs, pls, rfl, s9, f9, W9, eR9, o9, R9, ers, lrs, lpl, hpl, nrr, krs⟩
      obtain ⟨nmk, enk⟩ : ∃ w, names[k]? = some w := ⟨_, get_lt (by omega)⟩
      obtain ⟨sk, esk⟩ : ∃ z, sides[k]? = some z := ⟨_, get_lt (by omega)⟩
      obtain ⟨pk, epk⟩ : ∃ p, wa[k]? = some p := ⟨_, get_lt (by omega)⟩
      have mpk := mwa pk (List.mem_of_getElem? epk)
      have hi9 : ∀ {v : V} {l : List Int}, At (del B H8) v l → At (del (rr ++ B) H9) v l := fun h => f9.at_ h
      have lv9 := f9.live
      have sWr : ∀ p ∈ W, p ∈ rr ++ B := fun p mp => List.mem_append_right _ (sWb p mp)
      walk_at "rr"
      rw [Int.toNat_natCast]
      refine CRM (γ := Wo) (fun j => if sides.getD j 0 ≤ sk then names[j]? else none) lv9 ?_ ?_
      · rintro D j zs H10 hj kk
        have f10 := f9.trans (kk.fr)
        obtain ⟨sj, esj⟩ : ∃ z, sides[j]? = some z := ⟨_, get_lt (by omega)⟩
        obtain ⟨nj, enj⟩ : ∃ w, names[j]? = some w := ⟨_, get_lt (by omega)⟩
        have eg : sides.getD j 0 = sj := by rw [List.getD_eq_getElem?_getD, esj]; rfl
        walk_at "rr"
        refine r_xl (f10.at_ hsides8) (atI_get esj) fun x1 hx1 => ?_
        obtain rfl : x1 = .int sj := hx1
        walk_at "rr"
        refine r_xl (f10.at_ hsides8) (atI_get esk) fun x2 hx2 => ?_
        obtain rfl : x2 = .int sk := hx2
        walk_at "rr"
        refine r_d (fun hc => ?_) (fun hc => ?_)
        · walk_at "rr"
          refine r_xl (f10.at_ hnm8) (atI_get enj) fun x3 hx3 => ?_
          exact kk.rput (by rw [eg, if_pos hc]; exact enj) (Same.refl _) hx3
        · exact kk.rskip (by rw [eg, if_neg hc]) (Same.refl _)
      rintro sm H10 hsm0 s10 hsm
      have f10 := f9.trans (.of lv9 s10)
      have ksm : ∀ x ∈ (List.range m).filterMap (fun j => if sides.getD j 0 ≤ sk then names[j]? else none), x ∈ names := by
        intro x mx
        obtain ⟨j, _, ej⟩ := List.mem_filterMap.mp mx
        split at ej
        · exact List.mem_of_getElem? ej
        · cases ej
      have lsm : ((List.range m).filterMap (fun j => if sides.getD j 0 ≤ sk then names[j]? else none)).length ≤ 100 := by
        have := List.length_filterMap_le (fun j => if sides.getD j 0 ≤ sk then names[j]? else none) (List.range m)
        rw [List.length_range] at this
        omega
      generalize (List.range m).filterMap (fun j => if sides.getD j 0 ≤ sk then names[j]? else none) = some1 at hsm ksm lsm
      have o10 := o9.fr (.of lv9 s10) fun o e => s10 _ _ e
      walk_at "rr"
      refine o10.tyL ?_
      walk_at "rr"
      refine r_ixW (hwl8.fr f10) (atI_get epk) ?_
      walk_at "rr"
      refine r_lstA (xs := [.int 9, .int (10 ^ Int.toNat 30)]) (as := [9, 10 ^ Int.toNat 30]) f10.live (ats_of_int (l := [9, 10 ^ Int.toNat 30])) (by show 2 ≤ 100000; decide) fun l1 H11 hl1 s11 h11 => ?_
      have f11 := f10.trans (.of f10.live s11)
      walk_at "rr"
      refine r_ixW (hwl8.fr f11) (atI_get epk) ?_
      walk_at "rr"
      refine ⟨pk, 2, _, rfl, ((W9.same s10).same s11) pk mpk, by decide, by decide, by omega, fun i H12 i0 i1 b12 w12 => ?_⟩
      have W12 := ((W9.same s10).same s11).draw b12 w12
      have g12 := b12.fr f11.live (sWr pk mpk) w12.lv
      obtain ⟨mm, em, hmm⟩ := pick2 (a := (9 : Int)) (b := 10 ^ Int.toNat 30) i0 i1
      walk_at "rr"
      refine r_xl (g12.at_ h11) em fun x hx => ?_
      obtain rfl : x = .int mm := hx
      rw [e30] at hmm
      have hm2 : mm.natAbs < 2 ^ 220 := by rcases hmm with ⟨_, rfl⟩ | ⟨_, rfl⟩ <;> decide
      walk_at "rr"
      refine ⟨pk, mm, _, rfl, W12 pk mpk, by omega, hm2, by omega, fun plc H13 c0 c1 b13 w13 => ?_⟩
      have W13 := W12.draw b13 w13
      have g13 := b13.fr g12.live (sWr pk mpk) w13.lv
      have f13 := (f11.trans g12).trans g13
      have s13 : Same H H13 := fun b o e => b13 _ _ (b12 _ _ (s11 _ _ (s10 _ _ (s9 _ _ e))) (ne_of_none e (nW pk mpk))) (ne_of_none e (nW pk mpk))
      have nPpk : P ≠ pk := fun e => nPw (e ▸ mpk)
      have nRpk : R ≠ pk := fun e => nRw (e ▸ mpk)
      have tr13 : ∀ b o, b ≠ pk → H9 b = some o → H13 b = some o := fun b o n e => b13 _ _ (b12 _ _ (s11 _ _ (s10 _ _ e)) n) n
      have gg13 : Fr (rr ++ B) H9 (rr ++ B) H13 := (((Fr.of lv9 s10).trans (.of f10.live s11)).trans g12).trans g13
      walk_at "rr"
      refine r_appO gg13.live (List.mem_append_right _ mPB) (o9.fr gg13 fun o e => tr13 _ _ nPpk e) (at_int (n := plc)) (by omega) fun H14 g14 b14 o14 => ?_
      have s14 : Same H H14 := But.back s13 hP0 b14
      have W14 := W13.but b14 nPw
      have gg14 := gg13.trans g14
      have tr14 : ∀ b o, b ≠ pk → b ≠ P → H9 b = some o → H14 b = some o := fun b o n n2 e => b14 _ _ (tr13 _ _ n e) n2
      have hsm14 := (((Fr.of f10.live s11).trans g12).trans (g13.trans g14)).at_ hsm
      have f14 := f9.trans gg14
      walk_at "rr"
      refine r_xl (f14.at_ hnm8) (atI_get enk) fun x hx => ?_
      walk_at "rr"
      refine r_x20 hx fun x0 hx0 => ?_
      obtain ⟨rfl, _⟩ : x0 = .str nmk.1 ∧ _ := hx0
      walk_at "rr"
      have nbg : nmk.1 = "box" → ¬ nmk.1 = "go" := fun e1 e2 => absurd (e1.symm.trans e2) (by decide +kernel)
      refine r_d (fun hc => ?_) (fun hc => ?_)
      · walk_at "rr"
        refine r_ixW (hwl8.fr f14) (atI_get epk) ?_
        walk_at "rr"
        refine ⟨pk, 5, _, rfl, W14 pk mpk, by decide, by decide, by omega, fun size H15 z0 z1 b15 w15 => ?_⟩
        have W15 := W14.draw b15 w15
        have g15 := b15.fr f14.live (sWr pk mpk) w15.lv
        have gg15 := gg14.trans g15
        have s15 : Same H H15 := fun b o e => b15 _ _ (s14 _ _ e) (ne_of_none e (nW pk mpk))
        have tr15 : ∀ b o, b ≠ pk → b ≠ P → H9 b = some o → H15 b = some o := fun b o n n2 e => b15 _ _ (tr14 _ _ n n2 e) n
        have o15 := o14.fr g15 fun o e => b15 _ _ e nPpk
        have hsm15 := g15.at_ hsm14
        have hsz : 0 ≤ size ∧ size ≤ 4 ∧ (nmk.1 = "box" → size = 1) := ⟨z0, by omega, fun e => absurd hc (nbg e)⟩
        have W15 : Wls W (500 + 60 * k + 10) H15 := W15.mono (by omega)
        walk_at "rr"
        have eR15 : H15 R = some (.lst (rr.reverse.map V.ref)) := tr15 _ _ nRpk nRP eR9
        obtain ⟨hz0, hz1, hz2⟩ := hsz
        have R15 : Rows (rr ++ B) H15 rs := R9.keep gg15 fun e me o q => by
          have er : e.1 ∈ rr := List.mem_reverse.mp (by rw [← ers]; exact List.mem_map_of_mem me)
          have h8 := nrr _ er
          refine tr15 _ _ (fun z => ?_) (fun z => ?_) q
          · have := W8.lv pk mpk
            obtain ⟨_, q8, _⟩ := this
            rw [← z, h8] at q8
            cases q8
          · obtain ⟨ys, q8, _⟩ := o8
            rw [← z, h8] at q8
            cases q8
        refine r_tyL eR15 ?_
        walk_at "rr"
        refine CRo (γ := Wo) gg15.live (fun i H' => Wls W (500 + 60 * k + 10 + 10 * i) H' ∧ Buts W H15 H') (fun i zs => zs.length = i ∧ ∀ x ∈ zs, x ∈ names ∨ Pl x) ⟨rfl, fun x mx => (by cases mx)⟩ ⟨W15, .refl⟩ (fun i D o H' hD nD e => ⟨e.1.upd fun mb => nD (sWr _ mb), e.2.own hD⟩) ?_ ?_
        · rintro D i zs H16 hi kk
          obtain ⟨w16, b16⟩ := kk.ex
          have fD : Fr B H8 (D :: (rr ++ B)) H16 := (f9.trans gg15).trans kk.fr
          walk_at "rr"
          refine r_ixW (hwl8.fr fD) (atI_get epk) ?_
          walk_at "rr"
          refine ⟨pk, _, _, _, D :: (rr ++ B), rfl, kk.lv, List.mem_cons_of_mem _ (sWr pk mpk), w16 pk mpk, kk.fr.at_ hsm15, by omega, by omega, fun x w H17 g17 b17 w17 hx hw => ?_⟩
          refine kk.put (b17.fr (kk.lv.sub fun _ mb => List.mem_cons_of_mem _ mb) (sWr pk mpk) w17.lv) ⟨w16.draw b17 w17, b16.trans (b17.buts mpk)⟩ hx ⟨by rw [List.length_append, kk.r.1]; rfl, fun y my => ?_⟩ (by omega) (fun o e => ⟨e.1.upd fun mb => kk.out (sWr _ mb), e.2.own kk.D0⟩)
          rcases List.mem_append.mp my with my | my
          · exact kk.r.2 y my
          · rw [List.mem_singleton.mp my]
            exact hw.imp (ksm _) id
        · rintro D H16 zs kk
          obtain ⟨w16, b16⟩ := kk.ex
          obtain ⟨lzs, kzs⟩ := kk.r
          have oD := kk.own
          have fr16 := kk.fr
          have eR16 : H16 R = some (.lst (rr.reverse.map V.ref)) := b16 _ _ eR15 nRw
          have hD8 : H8 D = none := by
            cases e8 : H8 D with
            | none => rfl
            | some u =>
              have hDB : D ∈ B ∨ D ∉ B := Classical.em _
              rcases hDB with hDB | hDB
              · exact absurd (List.mem_append_right rr hDB) kk.out
              · have := (f9.trans gg15).keep e8 hDB
                rw [kk.D0] at this
                cases this
          have nRD : R ≠ D := fun e => by rw [← e, eR8] at hD8; cases hD8
          have nPD : P ≠ D := fun e => by
            obtain ⟨ys, q8, _⟩ := o8
            rw [e, hD8] at q8
            cases q8
          have hDH : H D = none := s15.free kk.D0
          have s16 : Same H H16 := fun b o e => b16 _ _ (s15 _ _ e) fun mb => by rw [nW b mb] at e; cases e
          have mRr : R ∈ (D :: rr) ++ B := List.mem_append_right _ mRB
          walk_at "rr"
          refine r_app eR16 (szl (by rw [List.length_map, List.length_reverse]; have := congrArg List.length ers; rw [List.length_map, List.length_reverse] at this; omega)) ?_
          have g17 : Fr ((D :: rr) ++ B) H16 ((D :: rr) ++ B) (upd H16 R (.lst (rr.reverse.map V.ref ++ [V.ref D]))) := .put kk.lv mRr (fun _ e => by cases e)
          have b17 : But R H16 (upd H16 R (.lst (rr.reverse.map V.ref ++ [V.ref D]))) := But.upd
          have e17 : (upd H16 R (.lst (rr.reverse.map V.ref ++ [V.ref D]))) R = some (.lst ((D :: rr).reverse.map V.ref)) := by rw [upd_same, List.reverse_cons, List.map_append]; rfl
          generalize upd H16 R (.lst (rr.reverse.map V.ref ++ [V.ref D])) = H17 at g17 b17 e17 ⊢
          have nrsR : ∀ e ∈ rs, e.1 ≠ R ∧ e.1 ∉ W ∧ e.1 ≠ D := fun e me => by
            have er : e.1 ∈ rr := List.mem_reverse.mp (by rw [← ers]; exact List.mem_map_of_mem me)
            have h8 := nrr _ er
            refine ⟨fun z => (by rw [z, eR8] at h8; cases h8), fun mb => ?_, fun z => ?_⟩
            · obtain ⟨_, q8, _⟩ := W8.lv _ mb
              rw [h8] at q8
              cases q8
            · exact kk.out (List.mem_append_left _ (z ▸ er))
          have lt4 : ∀ x y : Int, x = y → x = y := fun _ _ h => h
          walk_at "rr"
          refine ⟨_, _, _, D :: rr, rs ++ [(D, zs)], pls ++ [plc], rfl, But.back s16 hR0 b17, (((f9.trans gg15).trans fr16).trans g17), (w16.but b17 nRw).mono (by omega), e17, ?_, ?_, ?_, ?_, ?_, ?_, ?_, ?_⟩
          · exact (o15.fr (fr16.trans g17) fun o e => b17 _ _ (b16 _ _ e nPw) nRP.symm)
          · refine ⟨fun e me => ?_, ?_⟩
            · rcases List.mem_append.mp me with me | me
              · have k := R15.own e me
                exact ⟨List.mem_cons_of_mem _ k.1, k.2.fr (fr16.trans g17) fun o q => b17 _ _ (b16 _ _ q (nrsR e me).2.1) (nrsR e me).1⟩
              · rw [List.mem_singleton.mp me]
                exact ⟨List.mem_cons_self, oD.fr g17 fun o q => b17 _ _ q nRD.symm⟩
            · rw [List.map_append, List.nodup_append]
              refine ⟨R9.nd, by simp, fun x mx y my e => ?_⟩
              obtain ⟨e', me, rfl⟩ := List.mem_map.mp mx
              rw [List.map_cons, List.map_nil, List.mem_singleton] at my
              exact (nrsR e' me).2.2 (e.trans my)
          · rw [List.map_append, ers, List.reverse_cons]
            rfl
          · rw [List.length_append, lrs]
            rfl
          · rw [List.length_append, lpl]
            rfl
          · intro y my
            rcases List.mem_append.mp my with my | my
            · exact hpl y my
            · rw [List.mem_singleton.mp my]
              exact c0
          · intro b mb
            rcases List.mem_cons.mp mb with rfl | mb
            · exact hD8
            · exact nrr b mb
          · intro i2 e w he hw
            by_cases hi2 : i2 < rs.length
            · rw [List.getElem?_append_left hi2] at he
              exact krs i2 e w he hw
            · rw [List.getElem?_append_right (by omega)] at he
              have hi3 : i2 - rs.length = 0 := by
                have := (List.getElem?_eq_some_iff.mp he).1
                simp at this
                omega
              have hi4 : i2 = k := by omega
              rw [hi3] at he
              cases he
              rw [hi4, enk] at hw
              cases hw
              exact ⟨by show zs.length ≤ 4; omega, fun hb => by show zs.length = 1; rw [lzs, hz2 hb]; rfl, kzs⟩
      · obtain ⟨size, esz⟩ : ∃ z : Int, z = 1 := ⟨1, rfl⟩
        rw [← esz]
        obtain ⟨H15, e15⟩ : ∃ z, z = H14 := ⟨_, rfl⟩
        subst e15
        have gg15 := gg14
        have s15 := s14
        have tr15 := tr14
        have o15 := o14
        have hsm15 := hsm14
        have hsz : 0 ≤ size ∧ size ≤ 4 ∧ (nmk.1 = "box" → size = 1) := ⟨by omega, by omega, fun _ => esz⟩
        have W15 : Wls W (500 + 60 * k + 10) H15 := W14.mono (by omega)
        clear esz
        walk_at "rr"
        have eR15 : H15 R = some (.lst (rr.reverse.map V.ref)) := tr15 _ _ nRpk nRP eR9
        obtain ⟨hz0, hz1, hz2⟩ := hsz
        have R15 : Rows (rr ++ B) H15 rs := R9.keep gg15 fun e me o q => by
          have er : e.1 ∈ rr := List.mem_reverse.mp (by rw [← ers]; exact List.mem_map_of_mem me)
          have h8 := nrr _ er
          refine tr15 _ _ (fun z => ?_) (fun z => ?_) q
          · have := W8.lv pk mpk
            obtain ⟨_, q8, _⟩ := this
            rw [← z, h8] at q8
            cases q8
          · obtain ⟨ys, q8, _⟩ := o8
            rw [← z, h8] at q8
            cases q8
        refine r_tyL eR15 ?_
        walk_at "rr"
        refine CRo (γ := Wo) gg15.live (fun i H' => Wls W (500 + 60 * k + 10 + 10 * i) H' ∧ Buts W H15 H') (fun i zs => zs.length = i ∧ ∀ x ∈ zs, x ∈ names ∨ Pl x) ⟨rfl, fun x mx => (by cases mx)⟩ ⟨W15, .refl⟩ (fun i D o H' hD nD e => ⟨e.1.upd fun mb => nD (sWr _ mb), e.2.own hD⟩) ?_ ?_
        · rintro D i zs H16 hi kk
          obtain ⟨w16, b16⟩ := kk.ex
          have fD : Fr B H8 (D :: (rr ++ B)) H16 := (f9.trans gg15).trans kk.fr
          walk_at "rr"
          refine r_ixW (hwl8.fr fD) (atI_get epk) ?_
          walk_at "rr"
          refine ⟨pk, _, _, _, D :: (rr ++ B), rfl, kk.lv, List.mem_cons_of_mem _ (sWr pk mpk), w16 pk mpk, kk.fr.at_ hsm15, by omega, by omega, fun x w H17 g17 b17 w17 hx hw => ?_⟩
          refine kk.put (b17.fr (kk.lv.sub fun _ mb => List.mem_cons_of_mem _ mb) (sWr pk mpk) w17.lv) ⟨w16.draw b17 w17, b16.trans (b17.buts mpk)⟩ hx ⟨by rw [List.length_append, kk.r.1]; rfl, fun y my => ?_⟩ (by omega) (fun o e => ⟨e.1.upd fun mb => kk.out (sWr _ mb), e.2.own kk.D0⟩)
          rcases List.mem_append.mp my with my | my
          · exact kk.r.2 y my
          · rw [List.mem_singleton.mp my]
            exact hw.imp (ksm _) id
        · rintro D H16 zs kk
          obtain ⟨w16, b16⟩ := kk.ex
          obtain ⟨lzs, kzs⟩ := kk.r
          have oD := kk.own
          have fr16 := kk.fr
          have eR16 : H16 R = some (.lst (rr.reverse.map V.ref)) := b16 _ _ eR15 nRw
          have hD8 : H8 D = none := by
            cases e8 : H8 D with
            | none => rfl
            | some u =>
              have hDB : D ∈ B ∨ D ∉ B := Classical.em _
              rcases hDB with hDB | hDB
              · exact absurd (List.mem_append_right rr hDB) kk.out
              · have := (f9.trans gg15).keep e8 hDB
                rw [kk.D0] at this
                cases this
          have nRD : R ≠ D := fun e => by rw [← e, eR8] at hD8; cases hD8
          have nPD : P ≠ D := fun e => by
            obtain ⟨ys, q8, _⟩ := o8
            rw [e, hD8] at q8
            cases q8
          have hDH : H D = none := s15.free kk.D0
          have s16 : Same H H16 := fun b o e => b16 _ _ (s15 _ _ e) fun mb => by rw [nW b mb] at e; cases e
          have mRr : R ∈ (D :: rr) ++ B := List.mem_append_right _ mRB
          walk_at "rr"
          refine r_app eR16 (szl (by rw [List.length_map, List.length_reverse]; have := congrArg List.length ers; rw [List.length_map, List.length_reverse] at this; omega)) ?_
          have g17 : Fr ((D :: rr) ++ B) H16 ((D :: rr) ++ B) (upd H16 R (.lst (rr.reverse.map V.ref ++ [V.ref D]))) := .put kk.lv mRr (fun _ e => by cases e)
          have b17 : But R H16 (upd H16 R (.lst (rr.reverse.map V.ref ++ [V.ref D]))) := But.upd
          have e17 : (upd H16 R (.lst (rr.reverse.map V.ref ++ [V.ref D]))) R = some (.lst ((D :: rr).reverse.map V.ref)) := by rw [upd_same, List.reverse_cons, List.map_append]; rfl
          generalize upd H16 R (.lst (rr.reverse.map V.ref ++ [V.ref D])) = H17 at g17 b17 e17 ⊢
          have nrsR : ∀ e ∈ rs, e.1 ≠ R ∧ e.1 ∉ W ∧ e.1 ≠ D := fun e me => by
            have er : e.1 ∈ rr := List.mem_reverse.mp (by rw [← ers]; exact List.mem_map_of_mem me)
            have h8 := nrr _ er
            refine ⟨fun z => (by rw [z, eR8] at h8; cases h8), fun mb => ?_, fun z => ?_⟩
            · obtain ⟨_, q8, _⟩ := W8.lv _ mb
              rw [h8] at q8
              cases q8
            · exact kk.out (List.mem_append_left _ (z ▸ er))
          have lt4 : ∀ x y : Int, x = y → x = y := fun _ _ h => h
          walk_at "rr"
          refine ⟨_, _, _, D :: rr, rs ++ [(D, zs)], pls ++ [plc], rfl, But.back s16 hR0 b17, (((f9.trans gg15).trans fr16).trans g17), (w16.but b17 nRw).mono (by omega), e17, ?_, ?_, ?_, ?_, ?_, ?_, ?_, ?_⟩
          · exact (o15.fr (fr16.trans g17) fun o e => b17 _ _ (b16 _ _ e nPw) nRP.symm)
          · refine ⟨fun e me => ?_, ?_⟩
            · rcases List.mem_append.mp me with me | me
              · have k := R15.own e me
                exact ⟨List.mem_cons_of_mem _ k.1, k.2.fr (fr16.trans g17) fun o q => b17 _ _ (b16 _ _ q (nrsR e me).2.1) (nrsR e me).1⟩
              · rw [List.mem_singleton.mp me]
                exact ⟨List.mem_cons_self, oD.fr g17 fun o q => b17 _ _ q nRD.symm⟩
            · rw [List.map_append, List.nodup_append]
              refine ⟨R9.nd, by simp, fun x mx y my e => ?_⟩
              obtain ⟨e', me, rfl⟩ := List.mem_map.mp mx
              rw [List.map_cons, List.map_nil, List.mem_singleton] at my
              exact (nrsR e' me).2.2 (e.trans my)
          · rw [List.map_append, ers, List.reverse_cons]
            rfl
          · rw [List.length_append, lrs]
            rfl
          · rw [List.length_append, lpl]
            rfl
          · intro y my
            rcases List.mem_append.mp my with my | my
            · exact hpl y my
            · rw [List.mem_singleton.mp my]
              exact c0
          · intro b mb
            rcases List.mem_cons.mp mb with rfl | mb
            · exact hD8
            · exact nrr b mb
          · intro i2 e w he hw
            by_cases hi2 : i2 < rs.length
            · rw [List.getElem?_append_left hi2] at he
              exact krs i2 e w he hw
            · rw [List.getElem?_append_right (by omega)] at he
              have hi3 : i2 - rs.length = 0 := by
                have := (List.getElem?_eq_some_iff.mp he).1
                simp at this
                omega
              have hi4 : i2 = k := by omega
              rw [hi3] at he
              cases he
              rw [hi4, enk] at hw
              cases hw
              exact ⟨by show zs.length ≤ 4; omega, fun hb => by show zs.length = 1; rw [lzs, hz2 hb]; rfl, kzs⟩
    · rintro σ H9 ⟨u5, u11, u12, rr, rs, pls, rfl, s9, f9, W9, eR9, o9, R9, ers, lrs, lpl0, hpl, nrr, krs⟩
      obtain ⟨C, eC⟩ : ∃ C, C = W ++ ns := ⟨_, rfl⟩
      rw [← eC] at sWn nRW nPW
      have subS : ∀ x ∈ rr ++ C, x ∈ rr ++ B := fun x mx => (List.mem_append.mp mx).elim (List.mem_append_left _) fun mx => List.mem_append_right _ (by rw [eB, ← eC]; exact List.mem_cons_of_mem _ (List.mem_cons_of_mem _ mx))
      have fS : Fr (rr ++ B) H9 (rr ++ C) H9 := .sub f9.live subS
      have f9S := f9.trans fS
      have hnm9 := f9S.at_ hnm8
      have hsides9 := f9S.at_ hsides8
      have hwl9 := hwl8.fr f9S
      have nPr : P ∉ rr := fun mx => by
        obtain ⟨ys, q8, _⟩ := o8
        rw [nrr P mx] at q8
        cases q8
      have nRr : R ∉ rr := fun mx => by rw [nrr R mx] at eR8; cases eR8
      have hpl9 : At (del (rr ++ C) H9) (.ref P) pls := by
        obtain ⟨ys, e, rx⟩ := o9
        exact ⟨P, ys, rfl, del_at e fun mx => (List.mem_append.mp mx).elim nPr nPW, rx.same fS.same⟩
      have hR9 : WellsAt (rr ++ C) H9 (.ref R) rr.reverse := ⟨R, rfl, del_at eR9 fun mx => (List.mem_append.mp mx).elim nRr nRW⟩
      have mrs : ∀ e ∈ rs, e.1 ∈ rr := fun e me => List.mem_reverse.mp (by rw [← ers]; exact List.mem_map_of_mem me)
      have nrw : ∀ b ∈ rr, b ∉ W := fun b mb mw => by
        obtain ⟨_, q8, _⟩ := W8.lv _ mw
        rw [nrr b mb] at q8
        cases q8
      have R9' : Rows (rr ++ C) H9 rs := ⟨fun e me => ⟨List.mem_append_left _ (mrs e me), (R9.own e me).2.fr fS fun _ h => h⟩, R9.nd⟩
      have sWr : ∀ p ∈ W, p ∈ rr ++ C := fun p mp => List.mem_append_right _ (sWn p mp)
      have nrH : ∀ b ∈ rr, H b = none := fun b mb => s08.free (nrr b mb)
      have lv9 := fS.live
      clear o9 R9 f9 eB mPB mRB sWb hnm8 hsides8 hwl8 o8 f08 eR8 nPr nRr
      walk_at "rr"
      rw [Int.toNat_natCast]
      refine CRM (γ := Wo) (fun j => if sides.getD j 0 = 0 then names[j]? else none) lv9 ?_ ?_
      · rintro D j zs H10 hj kk
        obtain ⟨sj, esj⟩ : ∃ z, sides[j]? = some z := ⟨_, get_lt (by omega)⟩
        obtain ⟨nj, enj⟩ : ∃ w, names[j]? = some w := ⟨_, get_lt (by omega)⟩
        have eg : sides.getD j 0 = sj := by rw [List.getD_eq_getElem?_getD, esj]; rfl
        walk_at "rr"
        refine r_xl (kk.fr.at_ hsides9) (atI_get esj) fun x1 hx1 => ?_
        obtain rfl : x1 = .int sj := hx1
        walk_at "rr"
        refine r_d (fun hc => ?_) (fun hc => ?_)
        · walk_at "rr"
          refine r_xl (kk.fr.at_ hnm9) (atI_get enj) fun x3 hx3 => ?_
          exact kk.rput (by rw [eg, if_pos hc]; exact enj) (Same.refl _) hx3
        · exact kk.rskip (by rw [eg, if_neg hc]) (Same.refl _)
      rintro sm H10 hsm0 s10 hsm
      have ksm : ∀ x ∈ (List.range m).filterMap (fun j => if sides.getD j 0 = 0 then names[j]? else none), x ∈ names := by
        intro x mx
        obtain ⟨j, _, ej⟩ := List.mem_filterMap.mp mx
        split at ej
        · exact List.mem_of_getElem? ej
        · cases ej
      have lsm : ((List.range m).filterMap (fun j => if sides.getD j 0 = 0 then names[j]? else none)).length ≤ 100 := by
        have := List.length_filterMap_le (fun j => if sides.getD j 0 = 0 then names[j]? else none) (List.range m)
        rw [List.length_range] at this
        omega
      generalize (List.range m).filterMap (fun j => if sides.getD j 0 = 0 then names[j]? else none) = some1 at hsm ksm lsm
      have f10 := Fr.of lv9 s10
      have W10 := W9.same s10
      walk_at "rr"
      refine ⟨w0, 7, _, rfl, W10 w0 mw0, by decide, by decide, by omega, fun d7 H11 q0 q1 b11 w11 => ?_⟩
      have g11 := b11.fr f10.live (sWr w0 mw0) w11.lv
      have W11 := W10.draw b11 w11
      have f11 := f10.trans g11
      have s11 : Same H H11 := fun b o e => b11 _ _ (s10 _ _ (s9 _ _ e)) (ne_of_none e hw0)
      have R11 : Rows (rr ++ C) H11 rs := R9'.keep f11 fun e me o q => b11 _ _ (s10 _ _ q) fun z => nrw _ (mrs e me) (z ▸ mw0)
      have hsm11 := g11.at_ hsm
      have hnm11 := f11.at_ hnm9
      have hsides11 := f11.at_ hsides9
      have hwl11 := hwl9.fr f11
      have hpl11 := f11.at_ hpl9
      have hR11 := hR9.fr f11
      clear hsm hnm9 hsides9 hwl9 hpl9 hR9 R9' W10 W9 s10 g11 f10 b11
      walk_at "rr"
      refine CRo (γ := Wo) f11.live (fun i H' => Wls W (500 + 60 * m + 10 + 10 * i) H' ∧ Buts W H11 H') (fun i zs => zs.length = i ∧ ∀ x ∈ zs, x ∈ names ∨ Pl x) ⟨rfl, fun x mx => (by cases mx)⟩ ⟨W11.mono (by omega), .refl⟩ (fun i D o H' hD nD e => ⟨e.1.upd fun mb => nD (sWr _ mb), e.2.own hD⟩) ?_ ?_
      · rintro D i zs H16 hi kk
        obtain ⟨w16, b16⟩ := kk.ex
        walk_at "rr"
        refine ⟨w0, _, _, _, D :: (rr ++ C), rfl, kk.lv, List.mem_cons_of_mem _ (sWr w0 mw0), w16 w0 mw0, kk.fr.at_ hsm11, by omega, by omega, fun x w H17 g17 b17 w17 hx hw => ?_⟩
        refine kk.put (b17.fr (kk.lv.sub fun _ mb => List.mem_cons_of_mem _ mb) (sWr w0 mw0) w17.lv) ⟨w16.draw b17 w17, b16.trans (b17.buts mw0)⟩ hx ⟨by rw [List.length_append, kk.r.1]; rfl, fun y my => ?_⟩ (by omega) (fun o e => ⟨e.1.upd fun mb => kk.out (sWr _ mb), e.2.own kk.D0⟩)
        rcases List.mem_append.mp my with my | my
        · exact kk.r.2 y my
        · rw [List.mem_singleton.mp my]
          exact hw.imp (ksm _) id
      rintro pa H12 pw kk
      obtain ⟨w12, b12⟩ := kk.ex
      obtain ⟨lpw, kpw⟩ := kk.r
      have opa := kk.own
      have kk0 := kk.out
      have f12 := kk.fr
      have npaH : H pa = none := s11.free kk.D0
      have npaW : pa ∉ W := fun mb => kk.out (sWr _ mb)
      have npar : pa ∉ rr := fun mb => kk.out (List.mem_append_left _ mb)
      have s12 : Same H H12 := fun b o e => b12 _ _ (s11 _ _ e) fun mb => by rw [nW b mb] at e; cases e
      have lpw6 : pw.length ≤ 6 := by rw [lpw]; omega
      clear lpw
      have R12 : Rows (pa :: (rr ++ C)) H12 ((pa, pw) :: rs) := by
        refine ⟨fun e me => ?_, ?_⟩
        · rcases List.mem_cons.mp me with rfl | me
          · exact ⟨List.mem_cons_self, opa⟩
          · exact ⟨List.mem_cons_of_mem _ (R11.own e me).1, (R11.own e me).2.fr f12 fun o q => b12 _ _ q (nrw _ (mrs e me))⟩
        · rw [List.map_cons, List.nodup_cons, ers]
          exact ⟨fun mb => npar (List.mem_reverse.mp mb), by rw [← ers]; exact R11.nd⟩
      have W12 : Wls W (500 + 60 * m + 80) H12 := w12.mono (by omega)
      have hsm12 := f12.at_ hsm11
      have hnm12 := f12.at_ hnm11
      have hsides12 := f12.at_ hsides11
      have hwl12 := hwl11.fr f12
      have hpl12 := f12.at_ hpl11
      have hR12 := hR11.fr f12
      clear kk w12 b12 opa hsm11 hnm11 hsides11 hwl11 hpl11 hR11 R11 W11 f11
      walk_at "rr"
      intro d hd
      have s13 : Same H (upd H12 d (.dK [])) := s12.trans (same_new hd)
      have f13 : Fr (pa :: (rr ++ C)) H12 (d :: pa :: (rr ++ C)) (upd H12 d (.dK [])) := (newD (κ := Str) (α := Wo) f12.live hd).1
      have d13 : Dc (κ := Str) (α := Wo) (d :: pa :: (rr ++ C)) (upd H12 d (.dK [])) d [] := (newD f12.live hd).2
      have ndM : d ∉ pa :: (rr ++ C) := f12.live.not hd
      have ndW : d ∉ W := fun mb => ndM (List.mem_cons_of_mem _ (sWr _ mb))
      have W13 : Wls W (500 + 60 * m + 80) (upd H12 d (.dK [])) := W12.same (same_new hd)
      have R13 : Rows (d :: pa :: (rr ++ C)) (upd H12 d (.dK [])) ((pa, pw) :: rs) := ⟨fun e me => ⟨List.mem_cons_of_mem _ (R12.own e me).1, (R12.own e me).2.fr f13 fun o q => same_new hd _ _ q⟩, R12.nd⟩
      have hdH : H d = none := s12.free hd
      generalize upd H12 d (.dK []) = H13 at s13 f13 d13 W13 R13 ⊢
      have hsm13 := f13.at_ hsm12
      have hnm13 := f13.at_ hnm12
      have hsides13 := f13.at_ hsides12
      have hwl13 := hwl12.fr f13
      have hpl13 := f13.at_ hpl12
      have hR13 := hR12.fr f13
      clear hsm12 hnm12 hsides12 hwl12 hpl12 hR12 R12 W12 f12
      obtain ⟨M, eM⟩ : ∃ M, M = d :: pa :: (rr ++ C) := ⟨_, rfl⟩
      rw [← eM] at f13 d13 R13 hsm13 hnm13 hsides13 hwl13 hpl13 hR13
      have mdM : d ∈ M := by rw [eM]; exact List.mem_cons_self
      have sWM : ∀ p ∈ W, p ∈ M := fun p mp => by rw [eM]; exact List.mem_cons_of_mem _ (List.mem_cons_of_mem _ (sWr p mp))
      have hcc : ∀ e ∈ (pa, pw) :: rs, e.1 ∉ W ∧ e.1 ≠ d := by
        intro e me
        rcases List.mem_cons.mp me with rfl | me
        · exact ⟨npaW, fun z => ndM (by rw [← z]; exact List.mem_cons_self)⟩
        · exact ⟨nrw _ (mrs e me), fun z => ndM (List.mem_cons_of_mem _ (List.mem_append_left _ (by rw [← z]; exact mrs e me)))⟩
      walk_at "rr"
      refine ⟨w0, 4, _, rfl, W13 w0 mw0, by decide, by decide, by omega, fun d4 H14 q0 q1 b14 w14 => ?_⟩
      have g14 := b14.fr f13.live (sWM w0 mw0) w14.lv
      have W14 := W13.draw b14 w14
      have s14 : Same H H14 := fun b o e => b14 _ _ (s13 _ _ e) (ne_of_none e hw0)
      have d14 := d13.fr g14 fun o q => b14 _ _ q fun z => ndW (by rw [z]; exact mw0)
      have R14 := R13.keep g14 fun e me o q => b14 _ _ q fun z => (hcc e me).1 (by rw [z]; exact mw0)
      walk_at "rr"
      refine L_range (fun k σ H15 => ∃ (u5 : Option V) (nm : Str) (pl : List (Str × Wo)), σ = [some (.ref a), some (.int most), some (.ref w0), some (.int (1 + d2)), some (.int (m : Nat)), u5, some (.ref wl), some (.ref sd), some nmv, some (.ref R), some (.ref P), some (.ref sm), u12, some (.ref pa), some (.ref d), some (.str nm), none, none, none, none, none, none, none] ∧
          Same H H15 ∧ Fr M H14 M H15 ∧ Wls W (500 + 60 * m + 81 + 60 * k) H15 ∧ Rows M H15 ((pa, pw) :: rs) ∧ Dc M H15 d pl ∧ (isName nm = true ∨ nm = "") ∧ pl.length ≤ k ∧ (∀ q ∈ pl, isName q.1 = true ∧ (q.2 ∈ names ∨ Pl q.2)) ∧ (pl.map (·.1)).Nodup)
        ⟨_, "", [], rfl, s14, .refl g14.live, W14, R14, d14, .inr rfl, Nat.le_refl _, fun q mq => (by cases mq), .nil⟩ ?_ ?_
      · rintro k σ H15 hk ⟨u5, nm, pl, rfl, s15, f15, W15, R15, d15, hnm, lpl2, kpl, ndk⟩
        walk_at "rr"
        refine ⟨w0, nm, _, M, rfl, f15.live, sWM w0 mw0, W15 w0 mw0, by omega, hnm, fun nm2 H16 g16 b16 w16 hn2 => ?_⟩
        have W16 := W15.draw b16 w16
        walk_at "rr"
        refine ⟨w0, _, _, _, M, rfl, g16.live, sWM w0 mw0, W16 w0 mw0, ((g14.trans f15).trans g16).at_ hsm13, by omega, by omega, fun x w H17 g17 b17 w17 hx hw => ?_⟩
        have W17 := W16.draw b17 w17
        have bb : ∀ b o, b ≠ w0 → H15 b = some o → H17 b = some o := fun b o n e => b17 _ _ (b16 _ _ e n) n
        have d17 := d15.fr (g16.trans g17) fun o q => bb _ _ (fun z => ndW (by rw [z]; exact mw0)) q
        have R17 := R15.keep (g16.trans g17) fun e me o q => bb _ _ (fun z => (hcc e me).1 (by rw [z]; exact mw0)) q
        have s17 : Same H H17 := fun b o e => bb _ _ (ne_of_none e hw0) (s15 _ _ e)
        walk_at "rr"
        refine r_dputA g17.live mdM d17 (at_str (isName_ok hn2)) hx (by omega) fun H18 g18 b18 d18 => ?_
        walk_at "rr"
        refine ⟨_, nm2, _, rfl, But.back s17 hdH b18, f15.trans ((g16.trans g17).trans g18), (W17.but b18 ndW).mono (by omega), R17.keep g18 fun e me o q => b18 _ _ q (hcc e me).2, d18, .inl hn2, Nat.le_trans putA_len (by omega), fun q mq => ?_, putA_nodup ndk⟩
        rcases putA_mem mq with mq | mq
        · exact kpl q mq
        · rw [mq]
          exact ⟨hn2, hw.imp (ksm _) id⟩
      · rintro σ H15 ⟨u5, nm, pl, rfl, s15, f15, W15, R15, d15, hnm, lpl2, kpl, ndk⟩
        have lpl3 : pl.length ≤ 3 := by omega
        have g15 := g14.trans f15
        have hnm15 := g15.at_ hnm13
        have hsides15 := g15.at_ hsides13
        have hwl15 := hwl13.fr g15
        have hpl15 := g15.at_ hpl13
        have hR15 := hR13.fr g15
        have W15 : Wls W (500 + 60 * m + 300) H15 := W15.mono (by omega)
        clear hsm13 hnm13 hsides13 hwl13 hpl13 hR13 d13 d14 R13 R14 W13 W14 g14 f15 b14 lsm ksm lpl2
        walk_at "rr"
        rw [Int.toNat_natCast]
        refine L_range (fun k σ H16 => ∃ (u5 u16 u17 : Option V) (cc : List (Addr × List Wo)) (pl : List (Str × Wo)), σ = [some (.ref a), some (.int most), some (.ref w0), some (.int (1 + d2)), some (.int (m : Nat)), u5, some (.ref wl), some (.ref sd), some nmv, some (.ref R), some (.ref P), some (.ref sm), u12, some (.ref pa), some (.ref d), some (.str nm), u16, u17, none, none, none, none, none] ∧
            Same H H16 ∧ Fr M H15 M H16 ∧ Wls W (500 + 60 * m + 300 + 60 * k) H16 ∧ Rows M H16 cc ∧ cc.map (·.1) = pa :: rr.reverse ∧ Dc M H16 d pl ∧ pl.length ≤ 3 + k ∧ (∀ q ∈ pl, isName q.1 = true ∧ (q.2 ∈ names ∨ Pl q.2)) ∧ (pl.map (·.1)).Nodup ∧
            (∀ e ∈ cc, e.2.length ≤ 10 + k ∧ ∀ x ∈ e.2, x ∈ names ∨ Pl x) ∧ (∀ (i : Nat) (e : Addr × List Wo) (w : Wo), cc[i + 1]? = some e → names[i]? = some w → w.1 = "box" → e.2.length = 1) ∧
            ∀ (i : Nat) (w : Wo), i < k → names[i]? = some w → (∃ e ∈ cc, w ∈ e.2) ∨ ∃ q ∈ pl, q.2 = w)
          ⟨_, _, _, (pa, pw) :: rs, pl, rfl, s15, .refl g15.live, W15, R15, by rw [List.map_cons, ers], d15, by omega, kpl, ndk, ?_, ?_, fun i w h => (by omega)⟩ ?_ ?_
        · intro e me
          rcases List.mem_cons.mp me with rfl | me
          · exact ⟨by show pw.length ≤ _; omega, kpw⟩
          · obtain ⟨i, ei⟩ := List.mem_iff_getElem?.mp me
            have hi := (List.getElem?_eq_some_iff.mp ei).1
            obtain ⟨w, ew⟩ : ∃ w, names[i]? = some w := ⟨_, get_lt (by omega)⟩
            have := krs i e w ei ew
            exact ⟨by omega, this.2.2⟩
        · intro i e w he hw hb
          exact (krs i e w (by simpa using he) hw).2.1 hb
        · rintro k σ H16 hk ⟨u5, u16, u17, cc, pl, rfl, s16, f16, W16, R16, ecc, d16, lpl, kpl, ndk, kcc, kbx, khd⟩
          have cc0 : ∀ e ∈ cc, e.1 ∉ W ∧ e.1 ≠ d := fun e me => by
            have : e.1 ∈ ((pa, pw) :: rs).map (·.1) := by rw [List.map_cons, ers, ← ecc]; exact List.mem_map_of_mem me
            obtain ⟨e2, m2, q2⟩ := List.mem_map.mp this
            rw [← q2]
            exact hcc e2 m2
          obtain ⟨t, ent⟩ : ∃ w, names[k]? = some w := ⟨_, get_lt (by omega)⟩
          obtain ⟨sk, esk⟩ : ∃ z, sides[k]? = some z := ⟨_, get_lt (by omega)⟩
          obtain ⟨pk, epk⟩ : ∃ p, wa[k]? = some p := ⟨_, get_lt (by omega)⟩
          have mpk := mwa pk (List.mem_of_getElem? epk)
          have ksk := ksd sk (List.mem_of_getElem? esk)
          obtain ⟨jp, ppw, ejp, mpaM, opa⟩ := R16.at_ (a := pa) (by rw [ecc]; exact List.mem_cons_self)
          walk_at "rr"
          refine r_xl (f16.at_ hnm15) (atI_get ent) fun tv htv => ?_
          walk_at "rr"
          obtain ⟨kvs, ekv, rkv⟩ := id d16
          refine ⟨.inr (.inr (.inl ⟨rfl, .inl ⟨kvs, ekv⟩⟩)), ?_⟩
          refine ⟨d, kvs, rfl, rfl, ekv, fun vv hvv => ?_⟩
          have s17 := same_new (o := valuesO vv d) hvv
          have e17 : (upd H16 vv (valuesO vv d)) vv = some (valuesO vv d) := upd_same
          generalize upd H16 vv (valuesO vv d) = H17 at s17 e17 ⊢
          walk_at "rr"
          refine ⟨vv, d, kvs, rfl, e17, s17 _ _ ekv, fun lv0 hlv0 => ?_⟩
          have s18 := same_new (o := .lst (kvs.map Prod.snd)) hlv0
          have f17 := Fr.of f16.live s17
          have f18 := f17.trans (.of f17.live s18)
          have h18 : At (del M (upd H17 lv0 (.lst (kvs.map Prod.snd)))) (.ref lv0) (pl.map (·.2)) := by
            have n0 := f17.live.not hlv0
            refine ⟨lv0, _, rfl, del_at upd_same n0, ?_⟩
            have : ∀ {xs : List (Key × V)} {ys : List (Str × Wo)}, DR M H16 xs ys → Ats (del M H16) (xs.map Prod.snd) (ys.map (·.2)) := by
              intro xs ys h
              induction h with
              | nil => exact .nil
              | cons h _ ih => exact .cons h.2 ih
            exact f18.ats (this rkv)
          generalize upd H17 lv0 (.lst (kvs.map Prod.snd)) = H18 at s18 f18 h18 ⊢
          have s68 := s17.trans s18
          have lppw : ppw.length ≤ 10 + k := (kcc _ (List.mem_of_getElem? ejp)).1
          walk_at "rr"
          refine r_catOA f18.live (opa.fr f18 fun o e => s68 _ _ e) h18 (by rw [List.length_map]; omega) fun l19 H19 hl19 s19 h19 => ?_
          have f19 := f18.trans (.of f18.live s19)
          have s69 := s68.trans s19
          walk_at "rr"
          refine r_ninA (at_sub (f19.at_ htv)) (at_sub h19) ?_
          have nextk : (∃ e ∈ cc, t ∈ e.2) ∨ (∃ q ∈ pl, q.2 = t) → ∀ (i : Nat) (w : Wo), i < k + 1 → names[i]? = some w → (∃ e ∈ cc, w ∈ e.2) ∨ ∃ q ∈ pl, q.2 = w := by
            intro h i w hi hw
            by_cases c : i < k
            · exact khd i w c hw
            · have : i = k := by omega
              subst this
              rw [ent] at hw
              cases hw
              exact h
          have W19 := W16.same s69
          have d19 := d16.fr f19 fun o e => s69 _ _ e
          have R19 := R16.keep f19 fun e me o q => s69 _ _ q
          have sH19 := s16.trans s69
          have f069 := f16.trans f19
          walk_at "rr"
          refine r_nd (fun hin => ?_) (fun hin => ?_)
          · walk_at "rr"
            refine CW (γ := Bool) f19.live (hR15.fr f069) (fun _ H' => Same H19 H') (fun i zs => zs = (((cc.drop 1).take i).map fun e => decide (t ∈ e.2))) rfl (Same.refl _) (fun _ D o H' hD _ e => Same.own e hD) ?_ ?_
            · rintro D i p zs H20 ep kk
              have hi : i < rr.reverse.length := (List.getElem?_eq_some_iff.mp ep).1
              have e1 : (cc.map (·.1))[i + 1]? = some p := by rw [ecc, List.getElem?_cons_succ]; exact ep
              rw [List.getElem?_map] at e1
              obtain ⟨e, ee, ee2⟩ := Option.map_eq_some_iff.mp e1
              have oe := (R19.keep (.of f19.live kk.ex) fun e me o q => kk.ex _ _ q).own e (List.mem_of_getElem? ee)
              have hpe : At H20 (.ref p) e.2 := by
                obtain ⟨ys, ey, ry⟩ := oe.2
                exact ⟨p, ys, rfl, by rw [← ee2]; exact ey, ry.same del_sub⟩
              walk_at "rr"
              refine r_xl ((Fr.of f19.live kk.ex).at_ (f069.at_ hnm15)) (atI_get ent) fun tv2 htv2 => ?_
              walk_at "rr"
              refine r_inA (at_sub htv2) hpe ?_
              refine kk.put (c := decide (t ∈ e.2)) (.refl (kk.lv.sub fun _ mb => List.mem_cons_of_mem _ mb)) kk.ex at_bl ?_ (by rw [List.length_reverse] at hi; have := congrArg List.length ers; rw [List.length_map, List.length_reverse] at this; omega) (fun o e => Same.own e kk.D0)
              rw [kk.r, List.take_add_one, List.getElem?_drop, Nat.add_comm 1 i, ee]
              simp
            rintro D H20 zs hD f20 s20 rz _ hz
            have hlen : (cc.drop 1).length = rr.reverse.length := by
              have := congrArg List.length ecc
              rw [List.length_map, List.length_cons] at this
              rw [List.length_drop]
              omega
            rw [← hlen, List.take_length] at rz
            subst rz
            walk_at "rr"
            refine r_anyA hz ?_
            have f020 := f069.trans f20
            have W20 := W19.same s20
            have d20 := d19.fr f20 fun o e => s20 _ _ e
            have R20 := R19.keep f20 fun e me o q => s20 _ _ q
            have sH20 := sH19.trans s20
            walk_at "rr"
            refine r_ite (fun hany => ?_) (fun hany => ?_)
            · walk_at "rr"
              rw [Int.toNat_natCast]
              refine C_range (fun D i H21 => H20 D = none ∧ Same H20 H21 ∧ ∃ hs : List Addr, H21 D = some (.lst (hs.map .ref)) ∧ hs.length ≤ i ∧ ∀ a ∈ hs, ∃ (j : Nat) (w : Wo), rr.reverse[j]? = some a ∧ names[j]? = some w ∧ w.1 = "go") (fun D hD => ⟨hD, same_new hD, [], upd_same, Nat.le_refl _, fun a ma => (by cases ma)⟩) ?_ ?_
              · rintro D i H21 hi ⟨hD, s21, hs, eD, lhs, khs⟩
                have f21 := f020.trans (.of f020.live s21)
                obtain ⟨ni, eni⟩ : ∃ w, names[i]? = some w := ⟨_, get_lt (by omega)⟩
                obtain ⟨si, esi⟩ : ∃ z, sides[i]? = some z := ⟨_, get_lt (by omega)⟩
                have lrr : rr.reverse.length = m := by
                  have := congrArg List.length ers
                  rw [List.length_map] at this
                  omega
                obtain ⟨ri, eri⟩ : ∃ a, rr.reverse[i]? = some a := ⟨_, get_lt (by omega)⟩
                walk_at "rr"
                refine r_xl (f21.at_ hnm15) (atI_get eni) fun x hx => ?_
                walk_at "rr"
                refine r_x20 hx fun x0 hx0 => ?_
                obtain ⟨rfl, _⟩ : x0 = .str ni.1 ∧ _ := hx0
                walk_at "rr"
                refine r_d (fun hgo => ?_) (fun hgo => ?_)
                · walk_at "rr"
                  refine r_xl (f21.at_ hsides15) (atI_get esi) fun x1 hx1 => ?_
                  obtain rfl : x1 = .int si := hx1
                  walk_at "rr"
                  refine r_xl (f21.at_ hsides15) (atI_get esk) fun x2 hx2 => ?_
                  obtain rfl : x2 = .int sk := hx2
                  walk_at "rr"
                  refine r_d (fun hs2 => ?_) (fun hs2 => ?_)
                  · walk_at "rr"
                    refine r_ixW (hR15.fr f21) (atI_get eri) ?_
                    refine ⟨_, eD, szl (by rw [List.length_map]; omega), hD, Same.own s21 hD, hs ++ [ri], by rw [upd_same, List.map_append]; rfl, by rw [List.length_append, List.length_singleton]; omega, fun b mb => ?_⟩
                    rcases List.mem_append.mp mb with mb | mb
                    · exact khs b mb
                    · rw [List.mem_singleton.mp mb]
                      exact ⟨i, ni, eri, eni, hgo⟩
                  · exact ⟨hD, s21, hs, eD, by omega, khs⟩
                · walk_at "rr"
                  exact ⟨hD, s21, hs, eD, by omega, khs⟩
              rintro hv H21 hhv ⟨-, s21, hs, ehv, lhs, khs⟩
              have f21 := f020.trans (.of f020.live s21)
              have nhv := f020.live.not hhv
              have W21 := W20.same s21
              have d21 := d20.fr (.of f020.live s21) fun o e => s21 _ _ e
              have R21 := R20.keep (.of f020.live s21) fun e me o q => s21 _ _ q
              have sH21 := sH20.trans s21
              have hhs : WellsAt M H21 (.ref hv) hs := ⟨hv, rfl, del_at ehv nhv⟩
              walk_at "rr"
              refine r_ixW (hwl15.fr f21) (atI_get epk) ?_
              walk_at "rr"
              refine ⟨pk, 4, _, rfl, W21 pk mpk, by decide, by decide, by omega, fun wh H22 q0 q1 b22 w22 => ?_⟩
              have g22 := b22.fr f21.live (sWM pk mpk) w22.lv
              have W22 := W21.draw b22 w22
              have d22 := d21.fr g22 fun o q => b22 _ _ q fun z => ndW (by rw [z]; exact mpk)
              have R22 := R21.keep g22 fun e me o q => b22 _ _ q fun z => (cc0 e me).1 (by rw [z]; exact mpk)
              have sH22 : Same H H22 := fun b o e => b22 _ _ (sH21 _ _ e) (ne_of_none e (nW pk mpk))
              have hhs22 := hhs.fr g22
              have f22 := f21.trans g22
              walk_at "rr"
              refine r_lstA (xs := [.int wh, .int 3]) (as := [wh, 3]) f22.live (ats_of_int (l := [wh, 3])) (by show 2 ≤ 100000; decide) fun l23 H23 hl23 s23 h23 => ?_
              have f23 := f22.trans (.of f22.live s23)
              have sH23 := sH22.trans s23
              walk_at "rr"
              refine r_xl (f23.at_ hsides15) (atI_get esk) fun x2 hx2 => ?_
              obtain rfl : x2 = .int sk := hx2
              obtain ⟨wh2, ewh, hwh⟩ := pick2 (a := wh) (b := 3) ksk.1 (by omega)
              walk_at "rr"
              refine r_xl h23 ewh fun x3 hx3 => ?_
              obtain rfl : x3 = .int wh2 := hx3
              walk_at "rr"
              refine r_ixW (hwl15.fr f23) (atI_get epk) ?_
              walk_at "rr"
              refine r_xl (f23.at_ hnm15) (atI_get ent) fun tv3 htv3 => ?_
              have mrr : ∀ b ∈ hs, b ∈ rr.reverse := fun b mb => by
                obtain ⟨j, w, e, _⟩ := khs b mb
                exact List.mem_of_getElem? e
              walk_at "rr"
              refine ⟨pk, wh2, tv3, pa, d, .ref hv, t, _, M, W, hs, cc, pl, rfl, f23.live, sWM, W22.same s23, mpk, by omega, htv3, R22.keep (.of f22.live s23) (fun e me o q => s23 _ _ q), by rw [ecc]; exact List.mem_cons_self, mdM, ndW, d22.fr (.of f22.live s23) (fun o e => s23 _ _ e), by omega, fun e me => ⟨(cc0 e me).1, (cc0 e me).2, by have := (kcc e me).1; omega⟩, hhs22.fr (.of f22.live s23), fun b mb => by rw [ecc]; exact List.mem_cons_of_mem _ (mrr b mb), by omega, fun cc' pl' H24 f24 b24 W24 R24 d24 hld => ?_⟩
              have sH24 : Same H H24 := fun b o e => b24 _ _ (sH23 _ _ e) fun mb => by
                rcases List.mem_cons.mp mb with rfl | mb
                · rw [hdH] at e
                  cases e
                · rcases List.mem_append.mp mb with mb | mb
                  · rw [ecc] at mb
                    rcases List.mem_cons.mp mb with rfl | mb
                    · rw [npaH] at e
                      cases e
                    · rw [nrH b (List.mem_reverse.mp mb)] at e
                      cases e
                  · rw [nW b mb] at e
                    cases e
              have mt : t ∈ names := List.mem_of_getElem? ent
              walk_at "rr"
              rcases hld with ⟨rfl, z, nz, hz0, rfl⟩ | ⟨rfl, j, b, ws, i, ej, hb, rfl⟩
              · refine ⟨_, _, _, _, _, rfl, sH24, f23.trans f24, W24.mono (by omega), R24, ecc, d24, by rw [List.length_append, List.length_singleton]; omega, fun q mq => ?_, ?_, fun e me => ⟨by have := (kcc e me).1; omega, (kcc e me).2⟩, kbx, fun i w hi hw => ?_⟩
                · rcases List.mem_append.mp mq with mq | mq
                  · exact kpl q mq
                  · rw [List.mem_singleton.mp mq]
                    exact ⟨nz, .inl mt⟩
                · rw [← putA_new hz0]
                  exact putA_nodup ndk
                · by_cases c : i < k
                  · rcases khd i w c hw with h | ⟨q, mq, e⟩
                    · exact .inl h
                    · exact .inr ⟨q, List.mem_append_left _ mq, e⟩
                  · have : i = k := by omega
                    subst this
                    rw [ent] at hw
                    cases hw
                    exact .inr ⟨_, List.mem_append_right _ (List.mem_singleton.mpr rfl), rfl⟩
              · have mj := List.mem_of_getElem? ej
                have grow : ∀ w, (∃ e ∈ cc, w ∈ e.2) ∨ w = t → ∃ e ∈ cc.set j (b, insAt ws i t), w ∈ e.2 := by
                  intro w h
                  have hjl : j < cc.length := (List.getElem?_eq_some_iff.mp ej).1
                  have mset : (b, insAt ws i t) ∈ cc.set j (b, insAt ws i t) := List.mem_of_getElem? (i := j) (by rw [List.getElem?_set_self hjl])
                  rcases h with ⟨e, me, hw⟩ | rfl
                  · obtain ⟨j2, ej2⟩ := List.mem_iff_getElem?.mp me
                    by_cases c : j = j2
                    · subst c
                      rw [ej] at ej2
                      cases ej2
                      exact ⟨_, mset, insAt_mem.mpr (.inr hw)⟩
                    · exact ⟨e, List.mem_of_getElem? (i := j2) (by rw [List.getElem?_set_ne c]; exact ej2), hw⟩
                  · exact ⟨_, mset, insAt_mem.mpr (.inl rfl)⟩
                refine ⟨_, _, _, _, _, rfl, sH24, f23.trans f24, W24.mono (by omega), R24, by rw [set_fst ej]; exact ecc, d24, by omega, kpl, ndk, fun e me => ?_, fun i2 e w he hw hbx => ?_, fun i2 w hi hw => ?_⟩
                · rcases mem_set_ne R16.nd ej e me with rfl | ⟨me, _⟩
                  · refine ⟨by show (insAt ws i t).length ≤ _; rw [insAt_len]; have h9 : ws.length ≤ 10 + k := (kcc _ mj).1; omega, fun x mx => ?_⟩
                    rcases insAt_mem.mp mx with rfl | mx
                    · exact .inl mt
                    · exact (kcc _ mj).2 x mx
                  · exact ⟨by have := (kcc e me).1; omega, (kcc e me).2⟩
                · by_cases c : j = i2 + 1
                  · exfalso
                    have nbg : ("box" : Str) ≠ "go" := by decide +kernel
                    have h1 : (cc.map (·.1))[i2 + 1]? = some b := by rw [List.getElem?_map, ← c, ej]; rfl
                    rw [ecc, List.getElem?_cons_succ] at h1
                    have ndr : rr.reverse.Nodup := by
                      have := R16.nd
                      rw [ecc, List.nodup_cons] at this
                      exact this.2
                    rcases hb with rfl | hb
                    · exact npar (List.mem_reverse.mp (List.mem_of_getElem? h1))
                    · obtain ⟨j3, w3, e3, n3, g3⟩ := khs b hb
                      have : i2 = j3 := (List.getElem?_inj (List.getElem?_eq_some_iff.mp h1).1 ndr).mp (h1.trans e3.symm)
                      subst this
                      rw [n3] at hw
                      cases hw
                      exact nbg (hbx.symm.trans g3)
                  · rw [List.getElem?_set_ne c] at he
                    exact kbx i2 e w he hw hbx
                · by_cases c : i2 < k
                  · rcases khd i2 w c hw with h | h
                    · exact .inl (grow w (.inl h))
                    · exact .inr h
                  · have : i2 = k := by omega
                    subst this
                    rw [ent] at hw
                    cases hw
                    exact .inl (grow _ (.inr rfl))
            · walk_at "rr"
              refine ⟨_, _, _, cc, pl, rfl, sH20, f020, W20.mono (by omega), R20, ecc, d20, by omega, kpl, ndk, fun e me => ⟨by have := (kcc e me).1; omega, (kcc e me).2⟩, kbx, nextk ?_⟩
              have h1 : (((cc.drop 1).map fun e => decide (t ∈ e.2)).any id) = true := by simpa using hany
              rw [List.any_map, List.any_eq_true] at h1
              obtain ⟨e, me, he⟩ := h1
              exact .inl ⟨e, List.mem_of_mem_drop me, of_decide_eq_true he⟩
          · walk_at "rr"
            refine ⟨_, _, _, cc, pl, rfl, sH19, f069, W19.mono (by omega), R19, ecc, d19, by omega, kpl, ndk, fun e me => ⟨by have := (kcc e me).1; omega, (kcc e me).2⟩, kbx, nextk ?_⟩
            rcases List.mem_append.mp hin with h | h
            · exact .inl ⟨_, List.mem_of_getElem? ejp, h⟩
            · obtain ⟨q, mq, e⟩ := List.mem_map.mp h
              exact .inr ⟨q, mq, e⟩
        · rintro σ H16 ⟨u5, u16, u17, cc, pl, rfl, s16, f16, W16, R16, ecc, d16, lpl, kpl, ndk, kcc, kbx, khd⟩
          have f016 := g15.trans f16
          have lrr : rr.reverse.length = m := by
            have := congrArg List.length ers
            rw [List.length_map] at this
            omega
          obtain ⟨rows, erows⟩ : ∃ r, r = (cc.drop 1).map (·.2) := ⟨_, rfl⟩
          have lcc : cc.length = m + 1 := by
            have := congrArg List.length ecc
            rw [List.length_map, List.length_cons, lrr] at this
            exact this
          have lrows : rows.length = m := by rw [erows, List.length_map, List.length_drop]; omega
          have fC : Fr M H16 C H16 := .sub f16.live fun x mx => by rw [eM]; exact List.mem_cons_of_mem _ (List.mem_cons_of_mem _ (List.mem_append_right _ mx))
          have npaC : pa ∉ C := fun mx => kk0 (List.mem_append_right _ mx)
          have nrC : ∀ b ∈ rr, b ∉ C := fun b mb mx => by
            rw [eC] at mx
            rcases List.mem_append.mp mx with mx | mx
            · exact nrw b mb mx
            · exact lv.not (nrH b mb) mx
          have frz : ∀ e ∈ cc, At (del C H16) (.ref e.1) e.2 := fun e me => by
            obtain ⟨ys, ey, ry⟩ := (R16.own e me).2
            refine ⟨e.1, ys, rfl, del_at ey ?_, fC.ats ry⟩
            have : e.1 ∈ pa :: rr.reverse := by rw [← ecc]; exact List.mem_map_of_mem me
            rcases List.mem_cons.mp this with z | z
            · rw [z]
              exact npaC
            · exact nrC _ (List.mem_reverse.mp z)
          obtain ⟨pw2, tl2, etl⟩ : ∃ p l, cc = p :: l := by
            cases cc with
            | nil => simp at lcc
            | cons p l => exact ⟨p, l, rfl⟩
          have epa : pw2.1 = pa := by
            rw [etl, List.map_cons] at ecc
            exact (List.cons.inj ecc).1
          have etl2 : tl2.map (·.1) = rr.reverse := by
            rw [etl, List.map_cons] at ecc
            exact (List.cons.inj ecc).2
          have erows2 : rows = tl2.map (·.2) := by rw [erows, etl]; rfl
          have hpa16 : At (del C H16) (.ref pa) pw2.2 := by
            have := frz pw2 (by rw [etl]; exact List.mem_cons_self)
            rwa [epa] at this
          have hrows16 : At (del C H16) (.ref R) rows := by
            obtain ⟨R', eR', hR'⟩ := hR15.fr f16
            cases eR'
            refine ⟨R, _, rfl, fC.same _ _ hR', ?_⟩
            rw [erows2, ← etl2]
            have : ∀ l : List (Addr × List Wo), (∀ e ∈ l, At (del C H16) (.ref e.1) e.2) → Ats (del C H16) ((l.map (·.1)).map V.ref) (l.map (·.2)) := by
              intro l
              induction l with
              | nil => exact fun _ => .nil
              | cons e r ih => exact fun h => .cons (h e List.mem_cons_self) (ih fun x mx => h x (List.mem_cons_of_mem _ mx))
            exact this tl2 fun e me => frz e (by rw [etl]; exact List.mem_cons_of_mem _ me)
          have hnm16 := (f16.trans fC).at_ hnm15
          have hpl16 := (f16.trans fC).at_ hpl15
          have d16 := d16.fr fC fun _ e => e
          have lvC := fC.live
          have atk : ∀ k, k < m → ∃ w r z, names[k]? = some w ∧ rows[k]? = some r ∧ pls[k]? = some z ∧ names.getD k ("", 0) = w ∧ rows.getD k [] = r ∧ pls.getD k 0 = z := fun k hk => by
            have h1 := get_lt (l := names) (j := k) (by omega)
            have h2 := get_lt (l := rows) (j := k) (by omega)
            have h3 := get_lt (l := pls) (j := k) (by omega)
            refine ⟨_, _, _, h1, h2, h3, ?_, ?_, ?_⟩
            · rw [List.getD_eq_getElem?_getD, h1]; rfl
            · rw [List.getD_eq_getElem?_getD, h2]; rfl
            · rw [List.getD_eq_getElem?_getD, h3]; rfl
          walk_at "rr"
          rw [Int.toNat_natCast]
          refine CRM (γ := Going) (goF names pls rows) lvC ?_ ?_
          · rintro D k zs H17 hk kk
            obtain ⟨w, r, z, h1, h2, h3, h4, h5, h6⟩ := atk k hk
            walk_at "rr"
            refine r_xl (kk.fr.at_ hnm16) (atI_get h1) fun x hx => ?_
            walk_at "rr"
            refine r_x20 hx fun x0 hx0 => ?_
            obtain ⟨rfl, _⟩ : x0 = .str w.1 ∧ _ := hx0
            walk_at "rr"
            refine r_d (fun hc => ?_) (fun hc => ?_)
            · walk_at "rr"
              refine r_xl (kk.fr.at_ hnm16) (atI_get h1) fun x hx => ?_
              walk_at "rr"
              refine r_x21 hx fun x1 hx1 => ?_
              walk_at "rr"
              refine r_xl (kk.fr.at_ hpl16) (atI_get h3) fun x2 hx2 => ?_
              walk_at "rr"
              refine r_xl (kk.fr.at_ hrows16) (atI_get h2) fun x3 hx3 => ?_
              walk_at "rr"
              refine r_tupA3 (ab := (⟨w.2, z, r⟩ : Going)) kk.lv hx1 hx2 hx3 fun tp H18 htp s18 h18 => ?_
              exact kk.rput (by unfold goF; rw [h4, h5, h6, if_pos hc]) s18 h18
            · exact kk.rskip (by unfold goF; rw [h4, if_neg hc]) (Same.refl _)
          rintro gl H17 hgl0 s17 hgl
          have f17 := Fr.of lvC s17
          walk_at "rr"
          rw [Int.toNat_natCast]
          refine CRM (γ := Int × Wo) (boF names rows) f17.live ?_ ?_
          · rintro D k zs H18 hk kk
            have f18 := f17.trans kk.fr
            obtain ⟨w, r, z, h1, h2, h3, h4, h5, h6⟩ := atk k hk
            walk_at "rr"
            refine r_xl (f18.at_ hnm16) (atI_get h1) fun x hx => ?_
            walk_at "rr"
            refine r_x20 hx fun x0 hx0 => ?_
            obtain ⟨rfl, _⟩ : x0 = .str w.1 ∧ _ := hx0
            walk_at "rr"
            refine r_d (fun hc => ?_) (fun hc => ?_)
            · obtain ⟨e, ee, ee2⟩ : ∃ e, cc[k + 1]? = some e ∧ e.2 = r := by
                rw [erows, List.getElem?_map, List.getElem?_drop, Nat.add_comm 1 k] at h2
                obtain ⟨e, h, q⟩ := Option.map_eq_some_iff.mp h2
                exact ⟨e, h, q⟩
              have l1 := kbx k e w ee h1 hc
              rw [ee2] at l1
              obtain ⟨x9, rfl⟩ := List.length_eq_one_iff.mp l1
              walk_at "rr"
              refine r_xl (f18.at_ hnm16) (atI_get h1) fun x hx => ?_
              walk_at "rr"
              refine r_x21 hx fun x1 hx1 => ?_
              walk_at "rr"
              refine r_xl (f18.at_ hrows16) (atI_get h2) fun x3 hx3 => ?_
              walk_at "rr"
              refine r_xl hx3 (show atI [x9] 0 = some x9 from rfl) fun x4 hx4 => ?_
              walk_at "rr"
              refine r_tupA2 (ab := ((w.2, x9) : Int × Wo)) kk.lv hx1 hx4 fun tp H19 htp s19 h19 => ?_
              exact kk.rput (by unfold boF; rw [h4, h5, if_pos hc]; rfl) s19 h19
            · exact kk.rskip (by unfold boF; rw [h4, if_neg hc]) (Same.refl _)
          rintro bl H18 hbl0 s18 hbl
          have f18 := f17.trans (.of f17.live s18)
          have s68 := s17.trans s18
          have d18 := d16.fr f18 fun o e => s68 _ _ e
          obtain ⟨ps, eps, epl, hps⟩ := d18.pairs
          walk_at "rr"
          refine ⟨.inr (.inr (.inl ⟨rfl, .inl ⟨_, eps⟩⟩)), ?_⟩
          refine ⟨d, _, rfl, rfl, eps, fun vv hvv => ?_⟩
          have s19 := same_new (o := L2.DX.itemsO vv d) hvv
          have e19 : (upd H18 vv (L2.DX.itemsO vv d)) vv = some (L2.DX.itemsO vv d) := upd_same
          generalize upd H18 vv (L2.DX.itemsO vv d) = H19 at s19 e19 ⊢
          have f19 := f18.trans (.of f18.live s19)
          have lps : ps.length = pl.length := by rw [← epl, List.length_map]
          walk_at "rr"
          refine ⟨vv, d, ps, rfl, e19, s19 _ _ eps, fun e me => at_wo.mp (at_sub ((Fr.of f18.live s19).at_ (hps e me))), by omega, fun H20 l20 zs s20 hl20 pz oz nz el ez => ?_⟩
          have f20 := f19.trans (.of f19.live s20)
          have sH20 := ((s16.trans s68).trans s19).trans s20
          have hz20 : At (del C H20) (.ref l20) (zs.map fun z => (z.2.1, z.2.2.2)) := by
            refine ⟨l20, _, rfl, del_at el (f19.live.not hl20), ?_⟩
            have mz : ∀ z ∈ zs, At (del C H20) (.ref z.1) ((z.2.1, z.2.2.2) : Str × Wo) := fun z hz => by
              have m1 : z.2 ∈ ps := pz.mem_iff.mp (List.mem_map_of_mem hz)
              have m2 : (z.2.1, z.2.2.2) ∈ pl := by rw [← epl]; exact List.mem_map_of_mem (f := fun e : Str × V × Wo => (e.1, e.2.2)) m1
              have e1 := ez z hz
              exact ⟨z.1, _, _, rfl, del_at e1 (f20.live.tup e1), at_str (isName_ok (kpl _ m2).1), ((Fr.of f18.live s19).trans (.of f19.live s20)).at_ (hps _ m1)⟩
            clear pz oz nz el ez
            induction zs with
            | nil => exact .nil
            | cons z r ih => exact .cons (mz z List.mem_cons_self) (ih fun y hy => mz y (List.mem_cons_of_mem _ hy))
          have psp : (zs.map fun z => (z.2.1, z.2.2.2)).Perm pl := by
            have := pz.map (fun e : Str × V × Wo => (e.1, e.2.2))
            rw [List.map_map, epl] at this
            exact this
          have osp : (zs.map fun z => (z.2.1, z.2.2.2)).Pairwise fun e f => lower e.1 f.1 := by
            rw [List.pairwise_map] at oz ⊢
            exact oz
          have good := good_pic (pw := pw2.2) (rows := rows) (pls := pls) (sp := zs.map fun z => (z.2.1, z.2.2.2)) no lnm (by omega) lrows lpl0 hpl
            (fun x mx => (kcc pw2 (by rw [etl]; exact List.mem_cons_self)).2 x mx)
            (fun r mr => by
              rw [erows2] at mr
              obtain ⟨e, me, rfl⟩ := List.mem_map.mp mr
              have := kcc e (by rw [etl]; exact List.mem_cons_of_mem _ me)
              exact ⟨by omega, this.2⟩)
            (fun i r w hr hw hb => by
              rw [erows, List.getElem?_map, List.getElem?_drop, Nat.add_comm 1 i] at hr
              obtain ⟨e, h, q⟩ := Option.map_eq_some_iff.mp hr
              rw [← q]
              exact kbx i e w h hw hb)
            (fun q mq => kpl q (psp.mem_iff.mp mq)) osp
            (fun i w hi hw => by
              rcases khd i w hi hw with ⟨e, me, h⟩ | ⟨q, mq, e⟩
              · rw [etl] at me
                rcases List.mem_cons.mp me with rfl | me
                · exact .inl h
                · exact .inr (.inr ⟨e.2, by rw [erows2]; exact List.mem_map_of_mem me, h⟩)
              · exact .inr (.inl ⟨q, psp.mem_iff.mpr mq, e⟩))
            (by have := (kcc pw2 (by rw [etl]; exact List.mem_cons_self)).1; omega) (by rw [psp.length_eq]; omega)
          walk_at "rr"
          refine r_tupA4 (ab := (⟨pw2.2, zs.map fun z => (z.2.1, z.2.2.2), (List.range m).filterMap (goF names pls rows), (List.range m).filterMap (boF names rows)⟩ : Pic)) f20.live (f20.at_ hpa16) hz20 ((((Fr.of f17.live s18).trans (.of f18.live s19)).trans (.of f19.live s20)).at_ hgl) (((Fr.of f18.live s19).trans (.of f19.live s20)).at_ hbl) fun r H21 hr s21 h21 => ?_
          have sub : ∀ x ∈ ns, x ∈ C := fun x mx => by rw [eC]; exact List.mem_append_right _ mx
          exact q r _ H21 (sH20.free hr) (sH20.trans s21) ((Fr.sub (f20.live.same s21) sub).at_ h21) good.1 (by have := (kcc pw2 (by rw [etl]; exact List.mem_cons_self)).1; show pw2.2.length ≤ 300; omega) good.2 (Nat.le_trans (List.length_filterMap_le _ _) (by rw [List.length_range]; omega)) (Nat.le_trans (List.length_filterMap_le _ _) (by rw [List.length_range]; omega))
/-! ### _law_copy -/
abbrev s__law_copy : Stmt := top 35
theorem sc__law_copy : FnScope ["picture", "pile", "pegs", "goings", "boxes", "g", "place", "row"] ["picture"] (defScope s__law_copy) := ⟨rfl, rfl, rfl, by decide +kernel, rfl, by decide +kernel, by decide +kernel⟩
def sp__law_copy (_ : PySem.W.Frag) : Sp := fun vs H Q _ => ∃ (ns : List Addr) (v : V) (p : Pic), vs = [v] ∧ Live ns H ∧ At (del ns H) v p ∧ p.a.length ≤ 40000 ∧ p.b.length ≤ 40000 ∧ p.c.length ≤ 40000 ∧ p.d.length ≤ 40000 ∧ ∀ (r : Addr) (L : List Addr) H', Same H H' → H r = none → (∀ a ∈ L, H a = none) → PicN H' (.ref r) p L → Q (.ref r) H'
theorem ok__law_copy {fa : Addr} {fd : FuncData} (F : Fun K "_law_copy" "_law_copy" s__law_copy fa fd) (TX : Tx mg) :
    FnOk P w K mg base CX0 1 fa fd ["picture"] (sp__law_copy K) := by
  refine F.ok sc__law_copy (fun vs H Q E h => ?_) (fun cdv A outer s H vs Q E hr h => ?_)
  · obtain ⟨ns, v, p, rfl, lv, hv, la, lb, lc, ld, q⟩ := h
    rfl
  · obtain ⟨ns, v, p, rfl, lv, hv, la, lb, lc, ld, q⟩ := h
    have hu := hu_of hr
    have hu64 := hr.units
    have hu65 := hu65_of hr
    refine ⟨_, (pss_cons (ps_asg (pv 0) (pg_tup rfl (pgs_cons (pg_name (i := 1) sc__law_copy.nd rfl (Or.inl rfl)) (pgs_cons (pg_name (i := 2) sc__law_copy.nd rfl (Or.inl rfl)) (pgs_cons (pg_name (i := 3) sc__law_copy.nd rfl (Or.inl rfl)) (pgs_cons (pg_name (i := 4) sc__law_copy.nd rfl (Or.inl rfl)) pgs_nil))))))
  (pss_one (ps_ret (pe_tup (pa_cons (pe_callTy (kCallR (rListOf K) call_list_of rfl) (by rfl) TX.n_list (by decide +kernel) (pa_cons (pv 1) pa_nil)) (pa_cons (pe_callTy (kCallR (rListOf K) call_list_of rfl) (by rfl) TX.n_list (by decide +kernel) (pa_cons (pv 2) pa_nil)) (pa_cons (pe_lc (own := [("g", 5), ("place", 6), ("row", 7)]) (g := gTup K 3 (gCons (gName 5) (gCons (gName 6) (gCons (gName 7) gNil)))) (tt := tYes) rfl sc__law_copy.nd (pi_list (pv 3)) (blkOk_by (own := [("g", 5), ("place", 6), ("row", 7)]) (N := ["picture", "pile", "pegs", "goings", "boxes", "g", "place", "row"]) (sc := defScope s__law_copy) (by decide +kernel)) (fun _ _ _ _ _ => (kPG (gTup K _ _) (pg_tup rfl (pgs_cons (pg_name (i := 5) sc__law_copy.nd rfl (Or.inl rfl)) (pgs_cons (pg_name (i := 6) sc__law_copy.nd rfl (Or.inl rfl)) (pgs_cons (pg_name (i := 7) sc__law_copy.nd rfl (Or.inl rfl)) pgs_nil)))) rfl)) (fun _ _ _ _ _ => pts_nil) (fun _ _ _ _ _ => (pe_tup (pa_cons (pv 5) (pa_cons (pv 6) (pa_cons (pe_callTy (kCallR (rListOf K) call_list_of rfl) (by rfl) TX.n_list (by decide +kernel) (pa_cons (pv 7) pa_nil)) pa_nil)))))) (pa_cons (pe_callTy (kCallR (rListOf K) call_list_of rfl) (by rfl) TX.n_list (by decide +kernel) (pa_cons (pv 4) pa_nil)) pa_nil)))))))), ?_⟩
    refine r_begin (show L2.start _ _ = [some _, none, none, none, none, none, none, none] from rfl) ?_
    try dsimp only [cxOf]
    walk_at "rr"
    refine r_t4 hv fun x y z u hx hy hz hu2 => ?_
    walk_at "rr"
    refine r_listA lv hx fun l1 H1 hl1 s1 h1 => ?_
    have f1 := Fr.of lv s1
    walk_at "rr"
    refine r_listA f1.live (f1.at_ hy) fun l2 H2 hl2 s2 h2 => ?_
    have s02 := s1.trans s2
    have f2 := Fr.of lv s02
    have p1 := (Ls.of h1).same s2
    have p2 := Ls.of h2
    have hz2 := f2.at_ hz
    obtain ⟨tz, xz, rfl, ez, rz⟩ := hz2
    walk_at "rr"
    refine ⟨tz, rfl, ⟨xz, .inl (.inl (of_del ez).1)⟩, C_list (xs := xz) (fun D i H3 => H2 D = none ∧ Same H2 H3 ∧ ∃ ts rs : List Addr, H3 D = some (.lst (ts.map V.ref)) ∧ GoRs H3 ts rs (p.c.take i) ∧ (∀ a ∈ rs, H2 a = none ∧ a ≠ D) ∧ rs.Nodup) ?_ ?_ ?_ ?_⟩
    · intro D hD
      exact ⟨hD, same_new hD, [], [], upd_same, .nil, fun a m => (by cases m), .nil⟩
    · rintro D i H3 _ ⟨_, s3, _⟩
      exact .inl (.inl (s3 _ _ (of_del ez).1))
    · rintro D i x1 H3 ex ⟨hD, s3, ts, rs, eD, go, nw, ndr⟩
      obtain ⟨b, eb, hb⟩ := rz.get ex
      have f3 := Fr.of f2.live s3
      have hb3 := f3.at_ hb
      have hi := (List.getElem?_eq_some_iff.mp eb).1
      have lts := go.len.1
      rw [List.length_take] at lts
      walk_at "rr"
      refine r_t3 hb3 fun n w r hn hw hr => ?_
      cases hn
      cases hw
      walk_at "rr"
      refine r_listA f3.live hr fun l3 H4 hl3 s4 h4 => ?_
      have nD3 : l3 ≠ D := fun e => by rw [e, eD] at hl3; cases hl3
      have p3 := Ls.of h4
      walk_at "rr"
      refine ⟨Nat.le_of_ble_eq_true rfl, fun t5 ht5 => ?_⟩
      have s5 := same_new (o := .tup [.int b.a, .int b.b, .ref l3]) ht5
      have e5 : (upd H4 t5 (.tup [.int b.a, .int b.b, .ref l3])) t5 = some (.tup [.int b.a, .int b.b, .ref l3]) := upd_same
      generalize upd H4 t5 (.tup [.int b.a, .int b.b, .ref l3]) = H5 at s5 e5 ⊢
      have s35 := s4.trans s5
      have nt5 : t5 ≠ D := fun e => by rw [e, s4 _ _ eD] at ht5; cases ht5
      have lD : Live [D] H5 := .one (.lst (s35 _ _ eD))
      have bD : Buts [D] H5 (upd H5 D (.lst (ts.map V.ref ++ [V.ref t5]))) := fun c o e n => by
        rw [upd_ne (fun e => n (List.mem_singleton.mpr e))]
        exact e
      have g5 : GoRs H5 (ts ++ [t5]) (rs ++ [l3]) (p.c.take i ++ [b]) := (go.same s35).app (.one ⟨e5, p3.same s5⟩)
      have nr : ∀ a ∈ rs ++ [l3], H2 a = none ∧ a ≠ D := fun a m => by
        rcases List.mem_append.mp m with m | m
        · exact nw a m
        · rw [List.mem_singleton.mp m]
          exact ⟨s3.free hl3, nD3⟩
      refine ⟨_, s35 _ _ eD, szl (by rw [List.length_map]; omega), hD, Same.own (s3.trans s35) hD, ts ++ [t5], rs ++ [l3], by rw [upd_same, List.map_append]; rfl, ?_, nr, ?_⟩
      · rw [List.take_add_one, eb]
        exact g5.buts lD bD fun a m e => (nr a m).2 (List.mem_singleton.mp e)
      · rw [List.nodup_append]
        refine ⟨ndr, by simp, fun a ma c mc e => ?_⟩
        rw [List.mem_singleton] at mc
        obtain ⟨i2, hi2⟩ := List.mem_iff_getElem?.mp ma
        obtain ⟨_, _, _, _, k⟩ := go.getR hi2
        obtain ⟨xs, ek, _⟩ := k.row
        rw [e, mc, hl3] at ek
        cases ek
    · rintro D H3 hD ⟨_, s3, ts, rs, eD, go, nw, ndr⟩
      rw [show xz.length = p.c.length from rz.len, List.take_length] at go
      have f3 := Fr.of f2.live s3
      walk_at "rr"
      refine r_listA f3.live (f3.at_ (f2.at_ hu2)) fun l4 H4 hl4 s4 h4 => ?_
      walk_at "rr"
      refine ⟨Nat.le_of_ble_eq_true rfl, fun T hT => ?_⟩
      have s5 := same_new (o := .tup [.ref l1, .ref l2, .ref D, .ref l4]) hT
      have e5 : (upd H4 T (.tup [.ref l1, .ref l2, .ref D, .ref l4])) T = some (.tup [.ref l1, .ref l2, .ref D, .ref l4]) := upd_same
      generalize upd H4 T (.tup [.ref l1, .ref l2, .ref D, .ref l4]) = H5 at s5 e5 ⊢
      have s05 := ((s02.trans s3).trans s4).trans s5
      have old : ∀ {a : Addr} {o : HO}, H3 a = some o → a ≠ l4 := fun e z => by rw [z, hl4] at e; cases e
      have old2 : ∀ {a c : Addr} {o : HO}, H2 a = some o → H2 c = none → a ≠ c := fun e e' z => by rw [z, e'] at e; cases e
      obtain ⟨x1, e1, _⟩ := id p1
      obtain ⟨x2, e2, _⟩ := id p2
      have e12 : l1 ≠ l2 := fun z => by
        obtain ⟨x3, e3, _⟩ := Ls.of h1
        rw [z, hl2] at e3
        cases e3
      have rl4 : ∀ a ∈ rs, a ≠ l4 := fun a m => by
        obtain ⟨o, e, _⟩ := go.lv a m
        exact old e
      refine q T _ H5 s05 (s02.free (s3.free (s4.free hT))) (fun a m => ?_) ⟨T, l1, l2, D, l4, ts, rs, rfl, rfl, e5, ?_, ((p1.same s3).same s4).same s5, ((p2.same s3).same s4).same s5, s5 _ _ (s4 _ _ eD), (go.same s4).same s5, (Ls.of h4).same s5⟩
      · rcases List.mem_cons.mp m with rfl | m
        · exact hl1
        rcases List.mem_cons.mp m with rfl | m
        · exact s1.free hl2
        rcases List.mem_cons.mp m with rfl | m
        · exact s02.free hD
        rcases List.mem_cons.mp m with rfl | m
        · exact s02.free (s3.free hl4)
        · exact s02.free (nw a m).1
      · refine List.nodup_cons.mpr ⟨?_, List.nodup_cons.mpr ⟨?_, List.nodup_cons.mpr ⟨?_, List.nodup_cons.mpr ⟨fun m => rl4 _ m rfl, ndr⟩⟩⟩⟩
        · simp only [List.mem_cons, not_or]
          exact ⟨e12, old2 e1 hD, old (s3 _ _ e1), fun m => old2 e1 (nw _ m).1 rfl⟩
        · simp only [List.mem_cons, not_or]
          exact ⟨old2 e2 hD, old (s3 _ _ e2), fun m => old2 e2 (nw _ m).1 rfl⟩
        · simp only [List.mem_cons, not_or]
          exact ⟨old eD, fun m => (nw _ m).2 rfl⟩
/-! ### _law_chain -/
abbrev s__law_chain : Stmt := top 36
theorem sc__law_chain : FnScope ["well", "way", "many", "at", "row", "nexts", "goings", "boxes", "pile", "pegs", "k"] ["well"] (defScope s__law_chain) := ⟨rfl, rfl, rfl, by decide +kernel, rfl, by decide +kernel, by decide +kernel⟩
def sp__law_chain (_ : PySem.W.Frag) : Sp := fun vs H Q _ => ∃ (w : Addr) (n : Nat) (ns : List Addr), vs = [.ref w] ∧ Live ns H ∧ w ∈ ns ∧ WellAt H w n ∧ n + 30 < 1000000000 ∧ ∀ (r : Addr) p H', Fr ns H ns H' → But w H H' → WellAt H' w (n + 10) → At (del ns H') (.ref r) p → GoodPic p → p.a.length ≤ 300 → (standingP p).length ≤ 5000 → Q (.ref r) H'
theorem ok__law_chain {fa : Addr} {fd : FuncData} (F : Fun K "_law_chain" "_law_chain" s__law_chain fa fd) (TX : Tx mg)
    (C__law_draw : Cal P w K mg base CX0 2 "_law_draw" ["well", "many"] (sp__law_draw K)) :
    FnOk P w K mg base CX0 3 fa fd ["well"] (sp__law_chain K) := by
  refine F.ok sc__law_chain (fun vs H Q E h => ?_) (fun cdv A outer s H vs Q E hr h => ?_)
  · obtain ⟨w0, n, ns, rfl, lv, mw, hw, hn, q⟩ := h
    rfl
  · obtain ⟨w0, n, ns, rfl, lv, mw, hw, hn, q⟩ := h
    have hu := hu_of hr
    have hu64 := hr.units
    have hu65 := hu65_of hr
    refine ⟨_, (pss_cons (ps_set (i := 1) sc__law_chain.nd rfl (Or.inl rfl) (pe_cal C__law_draw (hr.mono (by decide)) (by rfl) pass0 (pa_cons (pv 0) (pa_cons pe_int pa_nil))))
  (pss_cons (ps_set (i := 2) sc__law_chain.nd rfl (Or.inl rfl) (pe_op op_add pe_int (pe_cal C__law_draw (hr.mono (by decide)) (by rfl) pass0 (pa_cons (pv 0) (pa_cons pe_int pa_nil)))))
  (pss_cons (ps_set (i := 3) sc__law_chain.nd rfl (Or.inl rfl) (pe_cal C__law_draw (hr.mono (by decide)) (by rfl) pass0 (pa_cons (pv 0) (pa_cons (pv 2) pa_nil))))
  (pss_cons (ps_setLc (i := 4) (own := [("k", 10)]) (g := gName 10) (tt := tYes) rfl sc__law_chain.nd rfl rfl (sw_true rfl rfl rfl (by decide +kernel)) (pi_range1 (by rfl) TX.range (pa_cons (pv 2) pa_nil)) (blkOk_by (own := [("k", 10)]) (N := ["well", "way", "many", "at", "row", "nexts", "goings", "boxes", "pile", "pegs", "k"]) (sc := defScope s__law_chain) (by decide +kernel)) (fun _ _ _ _ _ => (pg_name (i := 10) sc__law_chain.nd rfl (Or.inl rfl))) (fun _ _ _ _ _ => pts_nil) (fun _ _ _ _ _ => (pe_ix (kIxR (rIxL K) ix_list rfl) (pe_lst (pa_cons (pe_tup (pa_cons pe_str (pa_cons (pe_op op_fdivW (pv 10) pe_int) pa_nil))) (pa_cons (pe_tup (pa_cons pe_str (pa_cons (pe_op op_fdivW (pv 10) pe_int) pa_nil))) pa_nil))) (pe_op op_mod (pv 10) pe_int) (fun _ _ => rfl))))
  (pss_cons (ps_set (i := 5) sc__law_chain.nd rfl (Or.inr rfl) (pe_op op_cat (pe_slice sl_list (pv 4) (po_some pe_int) po_none) (pe_lst (pa_cons (pe_ix ix_list (pe_lst (pa_cons (pe_tup (pa_cons pe_str (pa_cons pe_int pa_nil))) (pa_cons (pe_ix ix_list (pv 4) pe_int (fun _ _ => rfl)) (pa_cons (pe_ix ix_list (pv 4) pe_int (fun _ _ => rfl)) (pa_cons (pe_ix ix_list (pv 4) (pv 3) (fun _ _ => rfl)) (pa_cons (pe_tup (pa_cons pe_str (pa_cons pe_int pa_nil))) pa_nil)))))) (pv 1) (fun _ _ => rfl)) pa_nil))))
  (pss_cons (ps_setLc (i := 6) (own := [("k", 10)]) (g := gName 10) (tt := tYes) rfl sc__law_chain.nd rfl rfl (sw_true rfl rfl rfl (by decide +kernel)) (pi_range3 (by rfl) TX.range (pa_cons pe_int (pa_cons (pv 2) (pa_cons pe_int pa_nil)))) (blkOk_by (own := [("k", 10)]) (N := ["well", "way", "many", "at", "row", "nexts", "goings", "boxes", "pile", "pegs", "k"]) (sc := defScope s__law_chain) (by decide +kernel)) (fun _ _ _ _ _ => (pg_name (i := 10) sc__law_chain.nd rfl (Or.inl rfl))) (fun _ _ _ _ _ => pts_nil) (fun _ _ _ _ _ => (pe_tup (pa_cons (pe_op op_fdivW (pv 10) pe_int) (pa_cons (pe_op op_mod (pv 10) pe_int) (pa_cons (pe_lst (pa_cons (pe_ix (kIxR (rIxL K) ix_list rfl) (pv 5) (pv 10) (fun _ _ => rfl)) pa_nil)) pa_nil))))))
  (pss_cons (ps_setLc (i := 7) (own := [("k", 10)]) (g := gName 10) (tt := tYes) rfl sc__law_chain.nd rfl rfl (sw_true rfl rfl rfl (by decide +kernel)) (pi_range3 (by rfl) TX.range (pa_cons pe_int (pa_cons (pv 2) (pa_cons pe_int pa_nil)))) (blkOk_by (own := [("k", 10)]) (N := ["well", "way", "many", "at", "row", "nexts", "goings", "boxes", "pile", "pegs", "k"]) (sc := defScope s__law_chain) (by decide +kernel)) (fun _ _ _ _ _ => (pg_name (i := 10) sc__law_chain.nd rfl (Or.inl rfl))) (fun _ _ _ _ _ => pts_nil) (fun _ _ _ _ _ => (pe_tup (pa_cons (pe_op op_fdivW (pv 10) pe_int) (pa_cons (pe_ix (kIxR (rIxL K) ix_list rfl) (pv 5) (pv 10) (fun _ _ => rfl)) pa_nil)))))
  (pss_cons (ps_if (pt_cmpR op_eq (pv 1) pe_int (nomark _)) (pss_one (ps_expr (pe_bm PySem.F.plainAttrs_list PySem.F.slot_list_insert PySem.F.type_list_insert (mt_insert : MtR _ _ rInsert) (pe_ix ix_tup (pe_ix ix_list (pv 6) pe_int (fun _ _ => rfl)) pe_int (fun _ _ => rfl)) (pa_cons (pe_cal C__law_draw (hr.mono (by decide)) (by rfl) pass0 (pa_cons (pv 0) (pa_cons pe_int pa_nil))) (pa_cons (pe_ix ix_list (pv 4) pe_int (fun _ _ => rfl)) pa_nil))))) pss_nil)
  (pss_cons (ps_set (i := 8) sc__law_chain.nd rfl (Or.inl rfl) (pe_ix ix_list (pe_lst (pa_cons (pe_lst (pa_cons (pe_ix ix_list (pv 4) pe_int (fun _ _ => rfl)) pa_nil)) (pa_cons (pe_lst pa_nil) (pa_cons (pe_lst pa_nil) (pa_cons (pe_lst (pa_cons (pe_ix ix_list (pv 4) pe_int (fun _ _ => rfl)) pa_nil)) (pa_cons (pe_lst (pa_cons (pe_ix ix_list (pv 4) (pv 3) (fun _ _ => rfl)) pa_nil)) pa_nil)))))) (pv 1) (fun _ _ => rfl)))
  (pss_cons (ps_set (i := 9) sc__law_chain.nd rfl (Or.inl rfl) (pe_ix ix_list (pe_lst (pa_cons (pe_lst pa_nil) (pa_cons (pe_lst (pa_cons (pe_tup (pa_cons pe_str (pa_cons (pe_ix ix_list (pv 4) (pv 3) (fun _ _ => rfl)) pa_nil))) pa_nil)) (pa_cons (pe_lst pa_nil) (pa_cons (pe_lst pa_nil) (pa_cons (pe_lst pa_nil) pa_nil)))))) (pv 1) (fun _ _ => rfl)))
  (pss_one (ps_ret (pe_tup (pa_cons (pv 8) (pa_cons (pv 9) (pa_cons (pv 6) (pa_cons (pv 7) pa_nil))))))))))))))))), ?_⟩
    refine r_begin (show L2.start _ _ = [some _, none, none, none, none, none, none, none, none, none, none] from rfl) ?_
    try dsimp only [cxOf]
    walk_at "rr"
    refine ⟨w0, 5, n, rfl, hw, by decide, by decide, by omega, fun way H1 y0 y1 b1 W1 => ?_⟩
    have f1 := b1.fr lv mw W1.lv
    walk_at "rr"
    refine ⟨w0, 120, _, rfl, W1, by decide, by decide, by omega, fun mz H2 z0 z1 b2 W2 => ?_⟩
    have f2 := f1.trans (b2.fr f1.live mw W2.lv)
    have b02 := b1.trans b2
    obtain ⟨m, em⟩ := Int.eq_ofNat_of_zero_le (show 0 ≤ 1 + mz by omega)
    walk_at "rr"
    rw [em]
    have m0 : 1 ≤ m := by omega
    have m1 : m ≤ 120 := by omega
    clear em z0 z1
    walk_at "rr"
    refine ⟨w0, (m : Int), _, rfl, W2, by omega, by omega, by omega, fun at_ H3 a0 a1 b3 W3 => ?_⟩
    have f3 := f2.trans (b3.fr f2.live mw W3.lv)
    have b03 := b02.trans b3
    obtain ⟨ai, ea⟩ := Int.eq_ofNat_of_zero_le a0
    subst ea
    have hai : ai < m := by omega
    have lv3 := f3.live
    walk_at "rr"
    rw [Int.toNat_natCast]
    refine CRM (γ := Wo) (fun k => some (cw k)) lv3 ?_ ?_
    · rintro D j zs H4 hj kk
      walk_at "rr"
      refine r_tupA2 (x := .str "go") (ab := (("go", (0 + (j : Int)) / 2) : Wo)) kk.lv (at_str ok_go) (at_int (n := (0 + (j : Int)) / 2)) fun t5 H5 ht5 s5 h5 => ?_
      walk_at "rr"
      refine r_tupA2 (x := .str "box") (ab := (("box", (0 + (j : Int)) / 2) : Wo)) (kk.lv.same s5) (at_str ok_box) (at_int (n := (0 + (j : Int)) / 2)) fun t6 H6 ht6 s6 h6 => ?_
      have s46 := s5.trans s6
      walk_at "rr"
      refine r_lstA (as := [((("go" : Str), (0 + (j : Int)) / 2) : Wo), ((("box" : Str), (0 + (j : Int)) / 2) : Wo)]) (kk.lv.same s46) (.cons ((Fr.of (kk.lv.same s5) s6).at_ h5) (.cons h6 .nil)) (by show 2 ≤ 100000; decide) fun l7 H7 hl7 s7 h7 => ?_
      have s47 := s46.trans s7
      walk_at "rr"
      refine r_xl h7 cw_pick fun x hx => ?_
      exact kk.rput rfl s47 hx
    rintro rw_ H4 hrw s4 h4
    have f4 := f3.trans (.of lv3 s4)
    have b04 := b03.trans (But.of s4)
    have W4 := W3.same s4
    have er : (List.range m).filterMap (fun k => some (cw k)) = (List.range m).map cw := by simp [List.filterMap_eq_map]
    rw [er] at h4
    have lrow : ((List.range m).map cw).length = m := by rw [List.length_map, List.length_range]
    have grow : ∀ {k : Nat}, k < m → ((List.range m).map cw)[k]? = some (cw k) := fun h => by
      rw [List.getElem?_map, List.getElem?_range h]
      rfl
    have lv4 := f4.live
    clear f1 f2 f3 b1 b2 b3 b02 b03 W1 W2 W3 er
    walk_at "rr"
    have ec : cutL ((List.range m).map cw) (some 1) none = ((List.range m).map cw).drop 1 := cutL_from _ 1
    refine r_slA lv4 h4 fun sl H5 hsl s5 h5 => ?_
    walk_at "rr"
    refine r_tupA2 (x := .str "num") (ab := (("num", 5) : Wo)) (lv4.same s5) (at_str ok_num) (at_int (n := 5)) fun ta H6 hta s6 h6 => ?_
    have s46 := s5.trans s6
    have f46 := Fr.of lv4 s46
    walk_at "rr"
    refine r_xl (f46.at_ h4) (show atI _ 0 = some (cw 0) from atI_nat (grow (k := 0) (by omega))) fun x1 hx1 => ?_
    walk_at "rr"
    refine r_xl (f46.at_ h4) (show atI _ 0 = some (cw 0) from atI_nat (grow (k := 0) (by omega))) fun x2 hx2 => ?_
    walk_at "rr"
    refine r_xl (f46.at_ h4) (atI_nat (grow hai)) fun x3 hx3 => ?_
    walk_at "rr"
    refine r_tupA2 (x := .str "at") (ab := (("at", 2) : Wo)) f46.live (at_str ok_at) (at_int (n := 2)) fun tb H7 htb s7 h7 => ?_
    have f7 := Fr.of f46.live s7
    walk_at "rr"
    refine r_lstA (as := [((("num" : Str), (5 : Int)) : Wo), cw 0, cw 0, cw ai, ((("at" : Str), (2 : Int)) : Wo)]) f7.live (.cons (f7.at_ h6) (.cons (f7.at_ hx1) (.cons (f7.at_ hx2) (.cons (f7.at_ hx3) (.cons h7 .nil))))) (by show 5 ≤ 100000; decide) fun l8 H8 hl8 s8 h8 => ?_
    have s48 := (s46.trans s7).trans s8
    have f48 := Fr.of lv4 s48
    obtain ⟨l, el⟩ := atI_there (xs := [((("num" : Str), (5 : Int)) : Wo), cw 0, cw 0, cw ai, ((("at" : Str), (2 : Int)) : Wo)]) y0 (by show way < 5; exact y1)
    walk_at "rr"
    refine r_xl h8 el fun x hx => ?_
    walk_at "rr"
    refine r_lstA (as := [l]) f48.live (.one hx) (by show 1 ≤ 100000; decide) fun l9 H9 hl9 s9 h9 => ?_
    have f49 := f48.trans (.of f48.live s9)
    walk_at "rr"
    refine r_catA f49.live ((((Fr.of (lv4.same s5) s6).trans f7).trans (.of f7.live s8) |>.trans (.of f48.live s9)).at_ h5) h9 (by rw [ec, List.length_drop, lrow, List.length_singleton]; omega) fun nx_ H10 hnx s10 h10 => ?_
    rw [ec] at h10
    have s410 := (s48.trans s9).trans s10
    have f410 := Fr.of lv4 s410
    have gnx : ∀ {k : Nat}, k < m → (((List.range m).map cw).drop 1 ++ [l])[k]? = some (nxw m l k) := nexts_get
    have h4' := f410.at_ h4
    have lv10 := f410.live
    clear h5 h6 h7 h8 h9 hx hx1 hx2 hx3 f46 f7 f48 f49 s5 s6 s46 s7 s8 s48 s9 s10
    walk_at "rr"
    refine ⟨0, (m : Int), 2, _, rfl, rg2 (a := 0) (by omega) (by decide), ?_⟩
    refine C_it walk_rangeC (GI ns H10 (nxw m l 0) (chGo m l)) (fun D hD => .zero hD) (fun _ _ _ _ _ => trivial) ?_ ?_
    · rintro D i x Hz H11 hi g ⟨rfl, rfl⟩
      have hi2 : 2 * i < m := by omega
      have ei : (0 : Int) + (i : Int) * 2 = ((2 * i : Nat) : Int) := by omega
      show gName 10 (V.int (0 + (i : Int) * 2)) _ _ _
      rw [ei]
      by_cases c0 : i = 0
      · subst c0
        have fg := g.fr0 lv10
        walk_at "rr"
        refine r_xl (fg.at_ h10) (atI_nat (gnx hi2)) fun y hy => ?_
        walk_at "rr"
        refine r_lstO (as := [nxw m l 0]) fg.live (.one hy) (by show 1 ≤ 100000; decide) fun r0 H12 hr0 s12 f12 o12 => ?_
        walk_at "rr"
        refine ⟨by show 3 ≤ sizeLine; decide, fun t0 ht0 => ?_⟩
        exact g.first hr0 s12 o12 f12.live ht0
      · rcases g.st with ⟨e, _⟩ | ⟨ip, t0, r0, ys, ht, hr, nDr, nDt, ntr, eD, e0, o, as⟩
        · exact absurd e c0
        have fg : Fr ns _ (r0 :: D :: ns) H11 := GI.frN lv10 g.D0 hr g.same (.lst eD) o.lv
        walk_at "rr"
        refine r_xl (fg.at_ h10) (atI_nat (gnx hi2)) fun y hy => ?_
        walk_at "rr"
        refine r_lstA (as := [nxw m l (2 * i)]) fg.live (.one hy) (by show 1 ≤ 100000; decide) fun r1 H12 hr1 s12 h12 => ?_
        have f12 := Fr.of fg.live s12
        walk_at "rr"
        refine r_tupA3 (ab := chGo m l i) f12.live (show V.int (((2 * i : Nat) : Int) / 2) = V.int ((i : Nat) : Int) from congrArg V.int (by omega)) (show V.int (((2 * i : Nat) : Int) % 7) = V.int ((2 * i % 7 : Nat) : Int) from congrArg V.int (by omega)) h12 fun t1 H13 ht1 s13 h13 => ?_
        exact GI.next g.D0 g.same ip (by omega) ht hr nDr nDt ntr eD e0 o as fg.live (s12.trans s13) h13
    · rintro D H11 hD g
      rcases g.st with ⟨e, _⟩ | ⟨ip, t0, r0, ys, ht, hr, nDr, nDt, ntr, eD, e0, o, as⟩
      · exact absurd e (by omega)
      have fg : Fr ns H10 (r0 :: D :: ns) H11 := GI.frN lv10 g.D0 hr g.same (.lst eD) o.lv
      walk_at "rr"
      refine ⟨1, (m : Int), 2, _, rfl, rg2 (a := 1) (by omega) (by decide), ?_⟩
      rw [Nat.add_sub_cancel]
      have lvg := fg.live
      refine CA_core (γ := Int × Wo) walk_rangeC lvg (fun _ H' => Same H11 H') (fun i zs => zs = (List.range i).map (chBo m l)) rfl (Same.refl _) (fun _ D o H' hD _ e => Same.own e hD) (fun _ _ _ => trivial) ?_ ?_
      · rintro D2 i x zs Hz H12 hi kk ⟨rfl, rfl⟩
        have hi2 : 2 * i + 1 < m := by omega
        have ei : (1 : Int) + (i : Int) * 2 = ((2 * i + 1 : Nat) : Int) := by omega
        show gName 10 (V.int (1 + (i : Int) * 2)) _ _ _
        rw [ei]
        walk_at "rr"
        refine r_xl ((fg.trans kk.fr).at_ h10) (atI_nat (gnx hi2)) fun y hy => ?_
        walk_at "rr"
        refine r_tupA2 (ab := chBo m l i) kk.lv (show V.int (((2 * i + 1 : Nat) : Int) / 2) = V.int ((i : Nat) : Int) from congrArg V.int (by omega)) hy fun t1 H13 ht1 s13 h13 => ?_
        exact kk.put (.of (kk.lv.sub fun _ m => List.mem_cons_of_mem _ m) s13) (Same.trans kk.ex s13) h13 (by rw [kk.r, List.range_succ, List.map_append]; rfl) (by omega) fun o e => Same.own e kk.D0
      rintro B H12 zs hB f12 s12 rz _ hb
      subst rz
      have h4b := (fg.trans f12).at_ h4'
      have eD2 := s12 _ _ eD
      have e02 := s12 _ _ e0
      have o2 := o.fr f12 fun o e => s12 _ _ e
      have as2 := f12.ats as
      have sH : Same H4 H12 := (s410.trans g.same).trans s12
      have b12 := b04.trans (But.of sH)
      have W12 := W4.same sH
      have nD := lv10.not g.D0
      have nr := lv10.not hr
      have nt := lv10.not ht
      have hr4 : H r0 = none := Option.eq_none_iff_forall_ne_some.mpr fun o e => by
        by_cases z : r0 = w0
        · exact nr (z ▸ mw)
        · have := s410 _ _ (b04 _ _ e z)
          rw [hr] at this
          cases this
      have lv12 := f12.live
      have hnx0 : nxw m l 0 ∈ [nxw m l 0] := List.mem_singleton.mpr rfl
      walk_at "rr"
      refine r_d (fun c4 => ?_) (fun c4 => ?_)
      · walk_at "rr"
        refine ⟨D, _, 0, _, rfl, rfl, .inl (.inl eD2), atI0 _ _, ?_⟩
        walk_at "rr"
        refine o2.tyL ?_
        walk_at "rr"
        refine ⟨w0, 2, _, rfl, W12, by decide, by decide, by omega, fun i H13 j0 j1 b13 W13 => ?_⟩
        have nwr : r0 ≠ w0 := fun e => nr (e ▸ mw)
        have nwD : D ≠ w0 := fun e => nD (e ▸ mw)
        have nwt : t0 ≠ w0 := fun e => nt (e ▸ mw)
        have g13 := b13.fr lv12 (List.mem_cons_of_mem _ (List.mem_cons_of_mem _ mw)) W13.lv
        have o3 := o2.fr g13 fun o e => b13 _ _ e nwr
        walk_at "rr"
        refine r_xl (g13.at_ h4b) (show atI _ 0 = some (cw 0) from atI_nat (grow (k := 0) (by omega))) fun x hx => ?_
        walk_at "rr"
        obtain ⟨xs0, ex0, rx0⟩ := id o3
        refine ⟨r0, xs0, i, x, rfl, rfl, ex0, szl (by rw [rx0.len]; show 1 < 100000; decide), j0, by omega, ?_⟩
        have f14 : Fr (r0 :: D :: ns) H13 (r0 :: D :: ns) (upd H13 r0 (.lst (xs0.take i.toNat ++ [x] ++ xs0.drop i.toNat))) := .put g13.live List.mem_cons_self (fun _ e => by cases e)
        have b14 : But r0 H13 (upd H13 r0 (.lst (xs0.take i.toNat ++ [x] ++ xs0.drop i.toNat))) := But.upd
        have o4 : Own (r0 :: D :: ns) (upd H13 r0 (.lst (xs0.take i.toNat ++ [x] ++ xs0.drop i.toNat))) r0 (insAt [nxw m l 0] i.toNat (cw 0)) := ⟨_, upd_same, f14.ats (((rx0.take _).app (.one hx)).app (rx0.drop _))⟩
        generalize upd H13 r0 (.lst (xs0.take i.toNat ++ [x] ++ xs0.drop i.toNat)) = H14 at f14 b14 o4 ⊢
        show tSeq _ _ _ _ _
        obtain ⟨g0, eg0⟩ : ∃ z, z = insAt [nxw m l 0] i.toNat (cw 0) := ⟨_, rfl⟩
        rw [← eg0] at o4
        have k0 : nxw m l 0 ∈ g0 := by rw [eg0, insAt_mem]; exact .inr hnx0
        have k1 : ∀ w ∈ g0, w = nxw m l 0 ∨ w = cw 0 := fun w mw => by
          rw [eg0, insAt_mem] at mw
          exact mw.elim .inr fun h => .inl (List.mem_singleton.mp h)
        have lg : g0.length ≤ 2 := by rw [eg0, insAt_len]; exact Nat.le_refl 2
        have k4 : way = 4 → cw 0 ∈ g0 := fun _ => by rw [eg0, insAt_mem]; exact .inl rfl
        clear eg0
        obtain ⟨HH, eH⟩ : ∃ z, z = H14 := ⟨_, rfl⟩
        subst eH
        have gH := g13.trans f14
        have bH : But w0 H HH := fun b o e k => b14 _ _ (b13 _ _ (b12 _ _ e k) k) (ne_of_none e hr4)
        have WH : WellAt HH w0 (n + 5) := by
          obtain ⟨x, y, z, e, r⟩ := W13
          exact WellAt.mono ⟨x, y, z, b14 _ _ e nwr.symm, r⟩ (by omega)
        have eDH := b14 _ _ (b13 _ _ eD2 nwD) nDr
        have e0H := b14 _ _ (b13 _ _ e02 nwt) ntr
        have fS : Fr (r0 :: D :: ns) HH ns HH := .sub gH.live fun x mx => List.mem_cons_of_mem _ (List.mem_cons_of_mem _ mx)
        have hgo : At (del ns HH) (.ref D) ((⟨0, 0, g0⟩ :: (List.range ((m + 1) / 2 - 1)).map (fun i => chGo m l (i + 1))) : List Going) := by
          obtain ⟨zs, ez, rz⟩ := id o4
          exact ⟨D, _, rfl, del_at eDH nD, .cons ⟨t0, .int 0, .int 0, .ref r0, rfl, del_at e0H nt, rfl, rfl, r0, zs, rfl, del_at ez nr, rz.same fS.same⟩ (fS.ats (gH.ats as2))⟩
        have hbo := fS.at_ (gH.at_ hb)
        have hrw := fS.at_ (gH.at_ h4b)
        have lvH := fS.live
        have fH : Fr ns H ns HH := ⟨fun b o e => by
          obtain ⟨e1, k⟩ := of_del e
          exact del_at (bH b o e1 fun z => k (z ▸ mw)) k, lvH⟩
        walk_at "rr"
        refine r_xl hrw (show atI _ 0 = some (cw 0) from atI_nat (grow (k := 0) (by omega))) fun x1 hx1 => ?_
        walk_at "rr"
        refine r_lstA (as := [cw 0]) lvH (.one hx1) (by show 1 ≤ 100000; decide) fun p1 J1 hp1 s1 h1 => ?_
        walk_at "rr"
        refine r_lstA (as := ([] : List Wo)) (lvH.same s1) .nil (by decide) fun p2 J2 hp2 s2 h2 => ?_
        have s02 := s1.trans s2
        walk_at "rr"
        refine r_lstA (as := ([] : List Wo)) (lvH.same s02) .nil (by decide) fun p3 J3 hp3 s3 h3 => ?_
        have s03 := s02.trans s3
        walk_at "rr"
        refine r_xl ((Fr.of lvH s03).at_ hrw) (show atI _ 0 = some (cw 0) from atI_nat (grow (k := 0) (by omega))) fun x4 hx4 => ?_
        walk_at "rr"
        refine r_lstA (as := [cw 0]) (lvH.same s03) (.one hx4) (by show 1 ≤ 100000; decide) fun p4 J4 hp4 s4 h4 => ?_
        have s04 := s03.trans s4
        walk_at "rr"
        refine r_xl ((Fr.of lvH s04).at_ hrw) (atI_nat (grow hai)) fun x5 hx5 => ?_
        walk_at "rr"
        refine r_lstA (as := [cw ai]) (lvH.same s04) (.one hx5) (by show 1 ≤ 100000; decide) fun p5 J5 hp5 s5 h5 => ?_
        have s05 := s04.trans s5
        walk_at "rr"
        refine r_lstA (as := [[cw 0], [], [], [cw 0], [cw ai]]) (lvH.same s05) (.cons ((Fr.of (lvH.same s1) (((s2.trans s3).trans s4).trans s5)).at_ h1) (.cons ((Fr.of (lvH.same s02) ((s3.trans s4).trans s5)).at_ h2) (.cons ((Fr.of (lvH.same s03) (s4.trans s5)).at_ h3) (.cons ((Fr.of (lvH.same s04) s5).at_ h4) (.cons h5 .nil))))) (by show 5 ≤ 100000; decide) fun p6 J6 hp6 s6 h6 => ?_
        have s06 := s05.trans s6
        obtain ⟨pw, epw⟩ := atI_there (xs := [[cw 0], [], [], [cw 0], [cw ai]]) y0 (by show way < 5; exact y1)
        walk_at "rr"
        refine r_xl h6 epw fun xp hxp => ?_
        have lv6 := lvH.same s06
        walk_at "rr"
        refine r_lstA (as := ([] : List (Str × Wo))) lv6 .nil (by decide) fun q1 K1 hq1 u1 v1 => ?_
        walk_at "rr"
        refine r_xl ((Fr.of lvH (s06.trans u1)).at_ hrw) (atI_nat (grow hai)) fun x7 hx7 => ?_
        walk_at "rr"
        refine r_tupA2 (x := .str "a") (ab := (("a", cw ai) : Str × Wo)) (lv6.same u1) (at_str (by decide +kernel)) hx7 fun t8 K2 ht8 u2 v2 => ?_
        have u02 := u1.trans u2
        walk_at "rr"
        refine r_lstA (as := [((("a" : Str), cw ai) : Str × Wo)]) (lv6.same u02) (.one v2) (by show 1 ≤ 100000; decide) fun q3 K3 hq3 u3 v3 => ?_
        have u03 := u02.trans u3
        walk_at "rr"
        refine r_lstA (as := ([] : List (Str × Wo))) (lv6.same u03) .nil (by decide) fun q4 K4 hq4 u4 v4 => ?_
        have u04 := u03.trans u4
        walk_at "rr"
        refine r_lstA (as := ([] : List (Str × Wo))) (lv6.same u04) .nil (by decide) fun q5 K5 hq5 u5 v5 => ?_
        have u05 := u04.trans u5
        walk_at "rr"
        refine r_lstA (as := ([] : List (Str × Wo))) (lv6.same u05) .nil (by decide) fun q6 K6 hq6 u6 v6 => ?_
        have u06 := u05.trans u6
        walk_at "rr"
        refine r_lstA (as := ([[], [(("a" : Str), cw ai)], [], [], []] : List (List (Str × Wo)))) (lv6.same u06) (.cons ((Fr.of (lv6.same u1) ((((u2.trans u3).trans u4).trans u5).trans u6)).at_ v1) (.cons ((Fr.of (lv6.same u03) ((u4.trans u5).trans u6)).at_ v3) (.cons ((Fr.of (lv6.same u04) (u5.trans u6)).at_ v4) (.cons ((Fr.of (lv6.same u05) u6).at_ v5) (.cons v6 .nil))))) (by show 5 ≤ 100000; decide) fun q7 K7 hq7 u7 v7 => ?_
        have u07 := u06.trans u7
        obtain ⟨pg, epg⟩ := atI_there (xs := ([[], [(("a" : Str), cw ai)], [], [], []] : List (List (Str × Wo)))) y0 (by show way < 5; exact y1)
        walk_at "rr"
        refine r_xl v7 epg fun xg hxg => ?_
        have sF := s06.trans u07
        have fF := Fr.of lvH sF
        walk_at "rr"
        refine r_tupA4 (ab := chPic m l pw pg g0) fF.live ((Fr.of lv6 u07).at_ hxp) hxg (fF.at_ hgo) (fF.at_ hbo) fun r K8 hr8 u8 v8 => ?_
        obtain ⟨gp, gs, gl⟩ := chain_all m0 m1 y0 y1 hai el epw epg k0 k1 lg k4
        have s9 := sF.trans u8
        exact q r _ K8 (fH.trans (.of lvH s9)) (bH.trans (But.of s9)) ((WH.same s9).mono (by omega)) v8 gp (by show pw.length ≤ 300; omega) gs
      · obtain ⟨HH, eH⟩ : ∃ z, z = H12 := ⟨_, rfl⟩
        subst eH
        obtain ⟨g0, eg0⟩ : ∃ z, z = [nxw m l 0] := ⟨_, rfl⟩
        have o4 := o2
        rw [← eg0] at o4
        have k0 : nxw m l 0 ∈ g0 := by rw [eg0]; exact hnx0
        have k1 : ∀ w ∈ g0, w = nxw m l 0 ∨ w = cw 0 := fun w mw => by
          rw [eg0] at mw
          exact .inl (List.mem_singleton.mp mw)
        have lg : g0.length ≤ 2 := by rw [eg0]; show 1 ≤ 2; decide
        have k4 : way = 4 → cw 0 ∈ g0 := fun e => absurd e c4
        clear eg0
        have gH : Fr (r0 :: D :: ns) HH (r0 :: D :: ns) HH := .refl lv12
        have bH := b12
        have WH := W12.mono (show _ ≤ n + 5 by omega)
        have eDH := eD2
        have e0H := e02
        have fS : Fr (r0 :: D :: ns) HH ns HH := .sub gH.live fun x mx => List.mem_cons_of_mem _ (List.mem_cons_of_mem _ mx)
        have hgo : At (del ns HH) (.ref D) ((⟨0, 0, g0⟩ :: (List.range ((m + 1) / 2 - 1)).map (fun i => chGo m l (i + 1))) : List Going) := by
          obtain ⟨zs, ez, rz⟩ := id o4
          exact ⟨D, _, rfl, del_at eDH nD, .cons ⟨t0, .int 0, .int 0, .ref r0, rfl, del_at e0H nt, rfl, rfl, r0, zs, rfl, del_at ez nr, rz.same fS.same⟩ (fS.ats (gH.ats as2))⟩
        have hbo := fS.at_ (gH.at_ hb)
        have hrw := fS.at_ (gH.at_ h4b)
        have lvH := fS.live
        have fH : Fr ns H ns HH := ⟨fun b o e => by
          obtain ⟨e1, k⟩ := of_del e
          exact del_at (bH b o e1 fun z => k (z ▸ mw)) k, lvH⟩
        walk_at "rr"
        refine r_xl hrw (show atI _ 0 = some (cw 0) from atI_nat (grow (k := 0) (by omega))) fun x1 hx1 => ?_
        walk_at "rr"
        refine r_lstA (as := [cw 0]) lvH (.one hx1) (by show 1 ≤ 100000; decide) fun p1 J1 hp1 s1 h1 => ?_
        walk_at "rr"
        refine r_lstA (as := ([] : List Wo)) (lvH.same s1) .nil (by decide) fun p2 J2 hp2 s2 h2 => ?_
        have s02 := s1.trans s2
        walk_at "rr"
        refine r_lstA (as := ([] : List Wo)) (lvH.same s02) .nil (by decide) fun p3 J3 hp3 s3 h3 => ?_
        have s03 := s02.trans s3
        walk_at "rr"
        refine r_xl ((Fr.of lvH s03).at_ hrw) (show atI _ 0 = some (cw 0) from atI_nat (grow (k := 0) (by omega))) fun x4 hx4 => ?_
        walk_at "rr"
        refine r_lstA (as := [cw 0]) (lvH.same s03) (.one hx4) (by show 1 ≤ 100000; decide) fun p4 J4 hp4 s4 h4 => ?_
        have s04 := s03.trans s4
        walk_at "rr"
        refine r_xl ((Fr.of lvH s04).at_ hrw) (atI_nat (grow hai)) fun x5 hx5 => ?_
        walk_at "rr"
        refine r_lstA (as := [cw ai]) (lvH.same s04) (.one hx5) (by show 1 ≤ 100000; decide) fun p5 J5 hp5 s5 h5 => ?_
        have s05 := s04.trans s5
        walk_at "rr"
        refine r_lstA (as := [[cw 0], [], [], [cw 0], [cw ai]]) (lvH.same s05) (.cons ((Fr.of (lvH.same s1) (((s2.trans s3).trans s4).trans s5)).at_ h1) (.cons ((Fr.of (lvH.same s02) ((s3.trans s4).trans s5)).at_ h2) (.cons ((Fr.of (lvH.same s03) (s4.trans s5)).at_ h3) (.cons ((Fr.of (lvH.same s04) s5).at_ h4) (.cons h5 .nil))))) (by show 5 ≤ 100000; decide) fun p6 J6 hp6 s6 h6 => ?_
        have s06 := s05.trans s6
        obtain ⟨pw, epw⟩ := atI_there (xs := [[cw 0], [], [], [cw 0], [cw ai]]) y0 (by show way < 5; exact y1)
        walk_at "rr"
        refine r_xl h6 epw fun xp hxp => ?_
        have lv6 := lvH.same s06
        walk_at "rr"
        refine r_lstA (as := ([] : List (Str × Wo))) lv6 .nil (by decide) fun q1 K1 hq1 u1 v1 => ?_
        walk_at "rr"
        refine r_xl ((Fr.of lvH (s06.trans u1)).at_ hrw) (atI_nat (grow hai)) fun x7 hx7 => ?_
        walk_at "rr"
        refine r_tupA2 (x := .str "a") (ab := (("a", cw ai) : Str × Wo)) (lv6.same u1) (at_str (by decide +kernel)) hx7 fun t8 K2 ht8 u2 v2 => ?_
        have u02 := u1.trans u2
        walk_at "rr"
        refine r_lstA (as := [((("a" : Str), cw ai) : Str × Wo)]) (lv6.same u02) (.one v2) (by show 1 ≤ 100000; decide) fun q3 K3 hq3 u3 v3 => ?_
        have u03 := u02.trans u3
        walk_at "rr"
        refine r_lstA (as := ([] : List (Str × Wo))) (lv6.same u03) .nil (by decide) fun q4 K4 hq4 u4 v4 => ?_
        have u04 := u03.trans u4
        walk_at "rr"
        refine r_lstA (as := ([] : List (Str × Wo))) (lv6.same u04) .nil (by decide) fun q5 K5 hq5 u5 v5 => ?_
        have u05 := u04.trans u5
        walk_at "rr"
        refine r_lstA (as := ([] : List (Str × Wo))) (lv6.same u05) .nil (by decide) fun q6 K6 hq6 u6 v6 => ?_
        have u06 := u05.trans u6
        walk_at "rr"
        refine r_lstA (as := ([[], [(("a" : Str), cw ai)], [], [], []] : List (List (Str × Wo)))) (lv6.same u06) (.cons ((Fr.of (lv6.same u1) ((((u2.trans u3).trans u4).trans u5).trans u6)).at_ v1) (.cons ((Fr.of (lv6.same u03) ((u4.trans u5).trans u6)).at_ v3) (.cons ((Fr.of (lv6.same u04) (u5.trans u6)).at_ v4) (.cons ((Fr.of (lv6.same u05) u6).at_ v5) (.cons v6 .nil))))) (by show 5 ≤ 100000; decide) fun q7 K7 hq7 u7 v7 => ?_
        have u07 := u06.trans u7
        obtain ⟨pg, epg⟩ := atI_there (xs := ([[], [(("a" : Str), cw ai)], [], [], []] : List (List (Str × Wo)))) y0 (by show way < 5; exact y1)
        walk_at "rr"
        refine r_xl v7 epg fun xg hxg => ?_
        have sF := s06.trans u07
        have fF := Fr.of lvH sF
        walk_at "rr"
        refine r_tupA4 (ab := chPic m l pw pg g0) fF.live ((Fr.of lv6 u07).at_ hxp) hxg (fF.at_ hgo) (fF.at_ hbo) fun r K8 hr8 u8 v8 => ?_
        obtain ⟨gp, gs, gl⟩ := chain_all m0 m1 y0 y1 hai el epw epg k0 k1 lg k4
        have s9 := sF.trans u8
        exact q r _ K8 (fH.trans (.of lvH s9)) (bH.trans (But.of s9)) ((WH.same s9).mono (by omega)) v8 gp (by show pw.length ≤ 300; omega) gs
/-! ### _law_some_picture -/
abbrev s__law_some_picture : Stmt := top 37
theorem sc__law_some_picture : FnScope ["well", "cells", "most"] ["well", "cells", "most"] (defScope s__law_some_picture) := ⟨rfl, rfl, rfl, by decide +kernel, rfl, by decide +kernel, by decide +kernel⟩
def sp__law_some_picture (K : PySem.W.Frag) : Sp := fun vs H Q _ => ∃ (w a : Addr) (cs : List Int) (most : Int) (n : Nat) (ns : List Addr), vs = [.ref w, .ref a, .int most] ∧ Live ns H ∧ w ∈ ns ∧ WellAt H w n ∧ a ≠ w ∧ H a = some (.lst (cs.map V.int)) ∧ cs.length ≤ 63 ∧ 0 ≤ most ∧ most ≤ 40 ∧ n + 50 < 1000000000 ∧ ∀ (r : Addr) p H', Fr ns H ns H' → But w H H' → WellAt H' w (n + 20) → At (del ns H') (.ref r) p → GoodPic p → p.a.length ≤ 300 → (standingP p).length ≤ 5000 → Q (.ref r) H'
theorem ok__law_some_picture {fa : Addr} {fd : FuncData} (F : Fun K "_law_some_picture" "_law_some_picture" s__law_some_picture fa fd) (TX : Tx mg)
    (C__law_chain : Cal P w K mg base CX0 3 "_law_chain" ["well"] (sp__law_chain K))
    (C__law_draw : Cal P w K mg base CX0 2 "_law_draw" ["well", "many"] (sp__law_draw K))
    (C__law_picture : Cal P w K mg base CX0 5 "_law_picture" ["cells", "most"] (sp__law_picture K)) :
    FnOk P w K mg base CX0 6 fa fd ["well", "cells", "most"] (sp__law_some_picture K) := by
  refine F.ok sc__law_some_picture (fun vs H Q E h => ?_) (fun cdv A outer s H vs Q E hr h => ?_)
  · obtain ⟨w0, a, cs, most, n, ns, rfl, lv, mw, hw, naw, ha, lcs, mo0, mo1, hn, q⟩ := h
    rfl
  · obtain ⟨w0, a, cs, most, n, ns, rfl, lv, mw, hw, naw, ha, lcs, mo0, mo1, hn, q⟩ := h
    have hu := hu_of hr
    have hu64 := hr.units
    have hu65 := hu65_of hr
    refine ⟨_, (pss_cons (ps_if (pt_cmpR op_eq (pe_cal C__law_draw (hr.mono (by decide)) (by rfl) pass0 (pa_cons (pv 0) (pa_cons pe_int pa_nil))) pe_int (nomark _)) (pss_one (ps_ret (pe_cal C__law_chain (hr.mono (by decide)) (by rfl) pass0 (pa_cons (pv 0) pa_nil)))) pss_nil)
  (pss_one (ps_ret (pe_cal C__law_picture (hr.mono (by decide)) (by rfl) pass0 (pa_cons (pv 1) (pa_cons (pv 2) pa_nil)))))), ?_⟩
    refine r_begin (show L2.start _ _ = [some _, some _, some _] from rfl) ?_
    try dsimp only [cxOf]
    walk_at "rr"
    refine ⟨w0, 6, n, rfl, hw, by decide, by decide, by omega, fun way H1 y0 y1 b1 W1 => ?_⟩
    have f1 := b1.fr lv mw W1.lv
    walk_at "rr"
    refine r_d (fun hc => ?_) (fun hc => ?_)
    · walk_at "rr"
      refine ⟨w0, _, ns, rfl, f1.live, mw, W1, by omega, fun r p H2 f2 b2 W2 h2 gp la ls => ?_⟩
      exact q r p H2 (f1.trans f2) (b1.trans b2) (W2.mono (by omega)) h2 gp la ls
    · walk_at "rr"
      refine ⟨a, cs, most, ns, rfl, .inl (.inl (b1 _ _ ha naw)), lcs, mo0, mo1, f1.live, fun r p H2 hr s2 h2 gp la ls _ _ => ?_⟩
      exact q r p H2 (f1.trans (.of f1.live s2)) (b1.trans (But.of s2)) ((W1.same s2).mono (by omega)) h2 gp la ls
/-! ### _law_longer -/
abbrev s__law_longer : Stmt := top 38
theorem sc__law_longer : FnScope ["picture", "well", "pile", "pegs", "goings", "boxes", "way", "more", "at", "g", "place", "row", "k"] ["picture", "well"] (defScope s__law_longer) := ⟨rfl, rfl, rfl, by decide +kernel, rfl, by decide +kernel, by decide +kernel⟩
def sp__law_longer (_ : PySem.W.Frag) : Sp := fun vs H Q _ => ∃ (w : Addr) (v : V) (p : Pic) (n : Nat) (ns : List Addr), vs = [v, .ref w] ∧ Live ns H ∧ w ∈ ns ∧ WellAt H w n ∧ At (del ns H) v p ∧ GoodPic p ∧ p.a.length ≤ 300 ∧ (standingP p).length ≤ 5000 ∧ n + 30 < 1000000000 ∧ ∀ (r : Addr) (p2 : Pic) H', Fr ns H ns H' → But w H H' → WellAt H' w (n + 10) → At (del ns H') (.ref r) p2 → GoodPic p2 → Q (.ref r) H'
theorem ok__law_longer {fa : Addr} {fd : FuncData} (F : Fun K "_law_longer" "_law_longer" s__law_longer fa fd) (TX : Tx mg)
    (C__law_draw : Cal P w K mg base CX0 2 "_law_draw" ["well", "many"] (sp__law_draw K)) :
    FnOk P w K mg base CX0 3 fa fd ["picture", "well"] (sp__law_longer K) := by
  refine F.ok sc__law_longer (fun vs H Q E h => ?_) (fun cdv A outer s H vs Q E hr h => ?_)
  · obtain ⟨w0, v, p, n, ns, rfl, lv, mw, hw, hv, gp, la, ls, hn, q⟩ := h
    rfl
  · obtain ⟨w0, v, p, n, ns, rfl, lv, mw, hw, hv, gp, la, ls, hn, q⟩ := h
    have hu := hu_of hr
    have hu64 := hr.units
    have hu65 := hu65_of hr
    refine ⟨_, (pss_cons (ps_asg (pv 0) (pg_tup rfl (pgs_cons (pg_name (i := 2) sc__law_longer.nd rfl (Or.inl rfl)) (pgs_cons (pg_name (i := 3) sc__law_longer.nd rfl (Or.inl rfl)) (pgs_cons (pg_name (i := 4) sc__law_longer.nd rfl (Or.inl rfl)) (pgs_cons (pg_name (i := 5) sc__law_longer.nd rfl (Or.inl rfl)) pgs_nil))))))
  (pss_cons (ps_set (i := 6) sc__law_longer.nd rfl (Or.inl rfl) (pe_cal C__law_draw (hr.mono (by decide)) (by rfl) pass0 (pa_cons (pv 1) (pa_cons pe_int pa_nil))))
  (pss_cons (ps_setLc (i := 7) (own := [("k", 12)]) (g := gName 12) (tt := tYes) rfl sc__law_longer.nd rfl rfl (sw_true rfl rfl rfl (by decide +kernel)) (pi_range1 (by rfl) TX.range (pa_cons (pe_cal C__law_draw (hr.mono (by decide)) (by rfl) pass0 (pa_cons (pv 1) (pa_cons pe_int pa_nil))) pa_nil)) (blkOk_by (own := [("k", 12)]) (N := ["picture", "well", "pile", "pegs", "goings", "boxes", "way", "more", "at", "g", "place", "row", "k"]) (sc := defScope s__law_longer) (by decide +kernel)) (fun _ _ _ _ _ => (pg_name (i := 12) sc__law_longer.nd rfl (Or.inl rfl))) (fun _ _ _ _ _ => pts_nil) (fun _ _ _ _ _ => (pe_tup (pa_cons (pe_ix (kIxR (rIxL K) ix_list rfl) (pe_lst (pa_cons pe_str (pa_cons pe_str pa_nil))) (pe_op op_mod (pv 12) pe_int) (fun _ _ => rfl)) (pa_cons (pe_op op_fdivW (pv 12) pe_int) pa_nil)))))
  (pss_cons (ps_if (pt_cmpR op_eq (pv 6) pe_int (nomark _)) (pss_one (ps_set (i := 2) sc__law_longer.nd rfl (Or.inl rfl) (pe_op op_cat (pv 7) (pv 2)))) pss_nil)
  (pss_cons (ps_if (PW.pt (pw_and (pt_cmpR op_eq (pv 6) pe_int (nomark _)) (pw_and1 (pt_cmpR (op_neD hu64) (pv 4) (pe_lst pa_nil) (nomark _))))) (pss_cons (ps_set (i := 8) sc__law_longer.nd rfl (Or.inl rfl) (pe_cal C__law_draw (hr.mono (by decide)) (by rfl) pass0 (pa_cons (pv 1) (pa_cons (pe_callB call_len (by rfl) TX.n_len (by decide +kernel) (pa_cons (pv 4) pa_nil)) pa_nil))))
  (pss_cons (ps_asg (pe_ix ix_list (pv 4) (pv 8) (fun _ _ => rfl)) (pg_tup rfl (pgs_cons (pg_name (i := 9) sc__law_longer.nd rfl (Or.inl rfl)) (pgs_cons (pg_name (i := 10) sc__law_longer.nd rfl (Or.inl rfl)) (pgs_cons (pg_name (i := 11) sc__law_longer.nd rfl (Or.inl rfl)) pgs_nil)))))
  (pss_one (ps_set (i := 4) sc__law_longer.nd rfl (Or.inl rfl) (pe_op op_cat (pe_op op_cat (pe_slice sl_list (pv 4) po_none (po_some (pv 8))) (pe_lst (pa_cons (pe_tup (pa_cons (pv 9) (pa_cons (pv 10) (pa_cons (pe_op op_cat (pv 7) (pv 11)) pa_nil)))) pa_nil))) (pe_slice sl_list (pv 4) (po_some (pe_op op_add (pv 8) pe_int)) po_none)))))) pss_nil)
  (pss_one (ps_ret (pe_tup (pa_cons (pv 2) (pa_cons (pv 3) (pa_cons (pv 4) (pa_cons (pv 5) pa_nil)))))))))))), ?_⟩
    refine r_begin (show L2.start _ _ = [some _, some _, none, none, none, none, none, none, none, none, none, none, none] from rfl) ?_
    try dsimp only [cxOf]
    walk_at "rr"
    refine r_t4 hv fun x y z u hx hy hz hu2 => ?_
    walk_at "rr"
    refine ⟨w0, 8, n, rfl, hw, by decide, by decide, by omega, fun way H1 y0 y1 b1 W1 => ?_⟩
    have f1 := b1.fr lv mw W1.lv
    walk_at "rr"
    refine ⟨w0, 121, _, rfl, W1, by decide, by decide, by omega, fun m H2 m0 m1 b2 W2 => ?_⟩
    have f2 := f1.trans (b2.fr f1.live mw W2.lv)
    have b02 := b1.trans b2
    walk_at "rr"
    refine CRM (γ := Wo) (fun k => some (if (k : Int) % 2 = 0 then ("num", (k : Int) / 2) else ("at", (k : Int) / 2))) f2.live ?_ ?_
    · rintro D k zs H3 hk kk
      walk_at "rr"
      refine r_lstA (xs := [.str "num", .str "at"]) (as := (["num", "at"] : List Str)) kk.lv (.cons (at_str ok_num) (.cons (at_str ok_at) .nil)) (by show 2 ≤ 100000; decide) fun l4 H4 hl4 s4 h4 => ?_
      have f4 := Fr.of kk.lv s4
      obtain ⟨word, ew, hw2⟩ := pick2 (a := ("num" : Str)) (b := "at") (i := (0 + (k : Int)) % 2) (by omega) (by omega)
      walk_at "rr"
      refine r_xl h4 ew fun x1 hx1 => ?_
      walk_at "rr"
      refine r_tupA2 (ab := ((word, (0 + (k : Int)) / 2) : Wo)) f4.live hx1 (at_int (n := (0 + (k : Int)) / 2)) fun t5 H5 ht5 s5 h5 => ?_
      refine kk.rput (c := ((word, (0 + (k : Int)) / 2) : Wo)) ?_ (s4.trans s5) h5
      rw [Int.zero_add] at hw2 ⊢
      rcases hw2 with ⟨e, rfl⟩ | ⟨e, rfl⟩
      · rw [if_pos e]
      · rw [if_neg (by omega)]
    rintro ml H3 hml s3 h3
    have kmo : ∀ w ∈ (List.range m.toNat).filterMap (fun k => some (if ((k : Nat) : Int) % 2 = 0 then (("num", (k : Int) / 2) : Wo) else ("at", (k : Int) / 2))), Pl w := by
      intro w mw
      obtain ⟨k, _, e⟩ := List.mem_filterMap.mp mw
      cases e
      split
      · exact ⟨isW_num, isT_num⟩
      · exact ⟨isW_at (by omega), isT_at⟩
    have lmo : ((List.range m.toNat).filterMap (fun k => some (if ((k : Nat) : Int) % 2 = 0 then (("num", (k : Int) / 2) : Wo) else ("at", (k : Int) / 2)))).length ≤ 120 := by
      have := List.length_filterMap_le (fun k => some (if ((k : Nat) : Int) % 2 = 0 then (("num", (k : Int) / 2) : Wo) else ("at", (k : Int) / 2))) (List.range m.toNat)
      rw [List.length_range] at this
      omega
    generalize (List.range m.toNat).filterMap (fun k => some (if ((k : Nat) : Int) % 2 = 0 then (("num", (k : Int) / 2) : Wo) else ("at", (k : Int) / 2))) = more at h3 kmo lmo
    have f3 := f2.trans (.of f2.live s3)
    have b03 := b02.trans (But.of s3)
    have W3 := W2.same s3
    walk_at "rr"
    refine r_d (fun hc => ?_) (fun hc => ?_)
    · walk_at "rr"
      refine r_catA f3.live h3 (f3.at_ hx) (by omega) fun l4 H4 hl4 s4 h4 => ?_
      have f4 := f3.trans (.of f3.live s4)
      walk_at "rr"
      refine r_itF (decide_eq_false (by omega)) ?_
      walk_at "rr"
      refine r_tupA4 (ab := (⟨more ++ p.a, p.b, p.c, p.d⟩ : Pic)) f4.live h4 (f4.at_ hy) (f4.at_ hz) (f4.at_ hu2) fun r H5 hr s5 h5 => ?_
      exact q r _ H5 (f4.trans (.of f4.live s5)) ((b03.trans (But.of s4)).trans (But.of s5)) (((W3.same s4).same s5).mono (by omega)) h5 (good_more gp la ls lmo kmo)
    · walk_at "rr"
      refine r_d (fun hc7 => ?_) (fun hc7 => ?_)
      · walk_at "rr"
        refine r_lstA (as := ([] : List Going)) f3.live .nil (by decide) fun e H4 he s4 h4 => ?_
        have f4 := f3.trans (.of f3.live s4)
        walk_at "rr"
        refine r_neA (at_sub (f4.at_ hz)) (at_sub h4) ?_
        walk_at "rr"
        refine r_nd (fun hn0 => ?_) (fun hn0 => ?_)
        · have l0 : 0 < p.c.length := List.length_pos_iff.mpr hn0
          have lc := gp.lc
          walk_at "rr"
          refine r_lenA (f4.at_ hz) ?_
          walk_at "rr"
          refine ⟨w0, _, _, rfl, W3.same s4, by omega, by omega, by omega, fun at_ H5 a0 a1 b5 W5 => ?_⟩
          have f5 := f4.trans (b5.fr f4.live mw W5.lv)
          obtain ⟨j, rfl⟩ : ∃ j : Nat, at_ = (j : Int) := ⟨at_.toNat, by omega⟩
          obtain ⟨g, eg⟩ : ∃ g, p.c[j]? = some g := ⟨_, get_lt (by omega)⟩
          walk_at "rr"
          refine r_xl (f5.at_ hz) (atI_nat eg) fun x1 hx1 => ?_
          walk_at "rr"
          refine r_t3 hx1 fun ga gb gc ha hb hcc => ?_
          walk_at "rr"
          refine r_slA f5.live (f5.at_ hz) fun l6 H6 hl6 s6 h6 => ?_
          rw [cutL_to] at h6
          have f56 := Fr.of f5.live s6
          have lgc := len_flat_mem (fun g : Going => g.c) (List.mem_of_getElem? eg)
          have ls2 := ls
          unfold standingP at ls2
          simp only [List.length_append, List.length_map] at ls2
          have hm6 := (((Fr.of f3.live s4).trans (b5.fr f4.live mw W5.lv)).trans f56).at_ h3
          walk_at "rr"
          refine r_catA f56.live hm6 (f56.at_ hcc) (by omega) fun l7 H7 hl7 s7 h7 => ?_
          have f57 := f56.trans (.of f56.live s7)
          walk_at "rr"
          refine r_tupA3 (ab := (⟨g.a, g.b, more ++ g.c⟩ : Going)) f57.live (f57.at_ ha) (f57.at_ hb) h7 fun t8 H8 ht8 s8 h8 => ?_
          have f58 := f57.trans (.of f57.live s8)
          walk_at "rr"
          refine r_lstA (as := [(⟨g.a, g.b, more ++ g.c⟩ : Going)]) f58.live (.one h8) (by show 1 ≤ 100000; decide) fun l9 H9 hl9 s9 h9 => ?_
          have f59 := f58.trans (.of f58.live s9)
          walk_at "rr"
          refine r_catA f59.live ((((Fr.of f56.live s7).trans (.of f57.live s8)).trans (.of f58.live s9)).at_ h6) h9 (by rw [List.length_take, List.length_singleton]; omega) fun l10 H10 hl10 s10 h10 => ?_
          have f510 := f59.trans (.of f59.live s10)
          walk_at "rr"
          refine r_slA f510.live ((f5.trans f510).at_ hz) fun l11 H11 hl11 s11 h11 => ?_
          rw [show cutL p.c (some ((j : Int) + 1)) none = p.c.drop (j + 1) from cutL_from p.c (j + 1)] at h11
          have f511 := f510.trans (.of f510.live s11)
          walk_at "rr"
          refine r_catA f511.live ((Fr.of f510.live s11).at_ h10) h11 (by simp only [List.length_append, List.length_take, List.length_singleton, List.length_drop]; omega) fun l12 H12 hl12 s12 h12 => ?_
          have f512 := f511.trans (.of f511.live s12)
          have f012 := f5.trans f512
          have s512 : Same H5 H12 := (((((s6.trans s7).trans s8).trans s9).trans s10).trans s11).trans s12
          walk_at "rr"
          refine r_tupA4 (ab := (⟨p.a, p.b, p.c.take j ++ [⟨g.a, g.b, more ++ g.c⟩] ++ p.c.drop (j + 1), p.d⟩ : Pic)) f512.live (f012.at_ hx) (f012.at_ hy) h12 (f012.at_ hu2) fun r H13 hr s13 h13 => ?_
          exact q r _ H13 (f012.trans (.of f512.live s13)) ((((b03.trans (But.of s4)).trans b5).trans (But.of s512)).trans (But.of s13)) (((W5.same s512).same s13).mono (by omega)) h13 (good_more_row gp ls eg lmo kmo)
        · walk_at "rr"
          refine r_tupA4 (ab := p) f4.live (f4.at_ hx) (f4.at_ hy) (f4.at_ hz) (f4.at_ hu2) fun r H5 hr s5 h5 => ?_
          exact q r _ H5 (f4.trans (.of f4.live s5)) ((b03.trans (But.of s4)).trans (But.of s5)) (((W3.same s4).same s5).mono (by omega)) h5 gp
      · walk_at "rr"
        refine r_tupA4 (ab := p) f3.live (f3.at_ hx) (f3.at_ hy) (f3.at_ hz) (f3.at_ hu2) fun r H5 hr s5 h5 => ?_
        exact q r _ H5 (f3.trans (.of f3.live s5)) (b03.trans (But.of s5)) ((W3.same s5).mono (by omega)) h5 gp
/-! ### _law_twin -/
abbrev s__law_twin : Stmt := top 39
theorem sc__law_twin : FnScope ["picture", "well", "pile", "pegs", "goings", "boxes", "way", "row", "rows", "number", "free", "g", "place", "whole", "k", "name", "worth"] ["picture", "well"] (defScope s__law_twin) := ⟨rfl, rfl, rfl, by decide +kernel, rfl, by decide +kernel, by decide +kernel⟩
def sp__law_twin (_ : PySem.W.Frag) : Sp := fun vs H Q _ => ∃ (w : Addr) (v : V) (p : Pic) (n : Nat) (ns : List Addr), vs = [v, .ref w] ∧ Live ns H ∧ w ∈ ns ∧ WellAt H w n ∧ At (del ns H) v p ∧ GoodPic p ∧ n + 30 < 1000000000 ∧ ∀ (r : V) (p2 : Pic) H', Fr ns H ns H' → But w H H' → WellAt H' w (n + 10) → At (del ns H') r p2 → isPic p2 = true → p2.a.length ≤ 600 → p2.b.length ≤ 201 → p2.c.length ≤ 130 → p2.d.length ≤ 130 → (standingP p2).length ≤ 13000 → Q r H'
theorem ok__law_twin {fa : Addr} {fd : FuncData} (F : Fun K "_law_twin" "_law_twin" s__law_twin fa fd) (TX : Tx mg)
    (C__law_draw : Cal P w K mg base CX0 2 "_law_draw" ["well", "many"] (sp__law_draw K)) :
    FnOk P w K mg base CX0 3 fa fd ["picture", "well"] (sp__law_twin K) := by
  refine F.ok sc__law_twin (fun vs H Q E h => ?_) (fun cdv A outer s H vs Q E hr h => ?_)
  · obtain ⟨w0, v, p, n, ns, rfl, lv, mw, hw, hv, gp, hn, q⟩ := h
    rfl
  · obtain ⟨w0, v, p, n, ns, rfl, lv, mw, hw, hv, gp, hn, q⟩ := h
    have hu := hu_of hr
    have hu64 := hr.units
    have hu65 := hu65_of hr
    have la := gp.la
    have lb := gp.lb
    have lc := gp.lc
    have ld := gp.ld
    have ls := gp.ls
    have ok := gp.pic
    have sl := standing_len (p := p)
    refine ⟨_, (pss_cons (ps_asg (pv 0) (pg_tup rfl (pgs_cons (pg_name (i := 2) sc__law_twin.nd rfl (Or.inl rfl)) (pgs_cons (pg_name (i := 3) sc__law_twin.nd rfl (Or.inr rfl)) (pgs_cons (pg_name (i := 4) sc__law_twin.nd rfl (Or.inl rfl)) (pgs_cons (pg_name (i := 5) sc__law_twin.nd rfl (Or.inl rfl)) pgs_nil))))))
  (pss_cons (ps_set (i := 6) sc__law_twin.nd rfl (Or.inl rfl) (pe_cal C__law_draw (hr.mono (by decide)) (by rfl) pass0 (pa_cons (pv 1) (pa_cons pe_int pa_nil))))
  (pss_cons (ps_set (i := 8) sc__law_twin.nd rfl (Or.inl rfl) (pe_op op_cat (pe_lst (pa_cons (pv 2) pa_nil)) (pe_lc (own := [("g", 11), ("place", 12), ("row", 7)]) (g := gTup K 3 (gCons (gName 11) (gCons (gName 12) (gCons (gName 7) gNil)))) (tt := tYes) rfl sc__law_twin.nd (pi_list (pv 4)) (blkOk_by (own := [("g", 11), ("place", 12), ("row", 7)]) (N := ["picture", "well", "pile", "pegs", "goings", "boxes", "way", "row", "rows", "number", "free", "g", "place", "whole", "k", "name", "worth"]) (sc := defScope s__law_twin) (by decide +kernel)) (fun _ _ _ _ _ => (kPG (gTup K _ _) (pg_tup rfl (pgs_cons (pg_name (i := 11) sc__law_twin.nd rfl (Or.inl rfl)) (pgs_cons (pg_name (i := 12) sc__law_twin.nd rfl (Or.inl rfl)) (pgs_cons (pg_name (i := 7) sc__law_twin.nd rfl (Or.inl rfl)) pgs_nil)))) rfl)) (fun _ _ _ _ _ => pts_nil) (fun _ _ _ _ _ => (pv 7)))))
  (pss_cons (ps_set (i := 7) sc__law_twin.nd rfl (Or.inl rfl) (pe_ix ix_list (pv 8) (pe_cal C__law_draw (hr.mono (by decide)) (by rfl) pass0 (pa_cons (pv 1) (pa_cons (pe_callB call_len (by rfl) TX.n_len (by decide +kernel) (pa_cons (pv 8) pa_nil)) pa_nil))) (fun _ _ => rfl)))
  (pss_cons (ps_set (i := 9) sc__law_twin.nd rfl (Or.inl rfl) (pe_op op_add (pe_op op_add (pe_callB (cr_max rfl) (by rfl) TX.n_max (by decide +kernel) (pa_cons (pe_op op_cat (pe_lst (pa_cons (pe_un un_neg pe_int) pa_nil)) (pe_lc (own := [("g", 11), ("place", 12), ("whole", 13)]) (g := gTup K 3 (gCons (gName 11) (gCons (gName 12) (gCons (gName 13) gNil)))) (tt := tYes) rfl sc__law_twin.nd (pi_list (pv 4)) (blkOk_by (own := [("g", 11), ("place", 12), ("whole", 13)]) (N := ["picture", "well", "pile", "pegs", "goings", "boxes", "way", "row", "rows", "number", "free", "g", "place", "whole", "k", "name", "worth"]) (sc := defScope s__law_twin) (by decide +kernel)) (fun _ _ _ _ _ => (kPG (gTup K _ _) (pg_tup rfl (pgs_cons (pg_name (i := 11) sc__law_twin.nd rfl (Or.inl rfl)) (pgs_cons (pg_name (i := 12) sc__law_twin.nd rfl (Or.inl rfl)) (pgs_cons (pg_name (i := 13) sc__law_twin.nd rfl (Or.inl rfl)) pgs_nil)))) rfl)) (fun _ _ _ _ _ => pts_nil) (fun _ _ _ _ _ => (pv 11)))) pa_nil)) pe_int) (pe_cal C__law_draw (hr.mono (by decide)) (by rfl) pass0 (pa_cons (pv 1) (pa_cons pe_int pa_nil)))))
  (pss_cons (ps_setLc (i := 10) (own := [("k", 14)]) (g := gName 14) rfl sc__law_twin.nd rfl rfl (sw_true rfl rfl rfl (by decide +kernel)) (pi_range2 (by rfl) TX.range (pa_cons pe_int (pa_cons pe_int pa_nil))) (blkOk_by (own := [("k", 14)]) (N := ["picture", "well", "pile", "pegs", "goings", "boxes", "way", "row", "rows", "number", "free", "g", "place", "whole", "k", "name", "worth"]) (sc := defScope s__law_twin) (by decide +kernel)) (fun _ _ _ _ _ => (pg_name (i := 14) sc__law_twin.nd rfl (Or.inl rfl))) (fun _ _ _ _ _ => pts_one (pt_cmpR (kOpR (rIn K true) op_notIn_seq rfl) (pe_op op_repS pe_str (pv 14)) (pe_lc (own := [("name", 15), ("worth", 16)]) (g := gTup K 2 (gCons (gName 15) (gCons (gName 16) gNil))) (tt := tYes) rfl sc__law_twin.nd (kPI (iList K _) (pi_list (pv 3)) rfl) (blkOk_by (own := [("name", 15), ("worth", 16)]) (N := ["picture", "well", "pile", "pegs", "goings", "boxes", "way", "row", "rows", "number", "free", "g", "place", "whole", "k", "name", "worth"]) (sc := ({ kind := .function, names := [(".0", .local), ("k", .local), ("pegs", .cell)], isGenerator := false, isCoroutine := false } : Scope)) (by decide +kernel)) (fun _ _ _ _ _ => (kPG (gTup K _ _) (pg_tup rfl (pgs_cons (pg_name (i := 15) sc__law_twin.nd rfl (Or.inl rfl)) (pgs_cons (pg_name (i := 16) sc__law_twin.nd rfl (Or.inl rfl)) pgs_nil))) rfl)) (fun _ _ _ _ _ => pts_nil) (fun _ _ _ _ _ => (pv 15))) (by rfl))) (fun _ _ _ _ _ => (pe_op op_repS pe_str (pv 14))))
  (pss_cons (ps_if (PW.pt (pw_or (pt_cmpR op_eq (pv 6) pe_int (nomark _)) (pw_or (pt_cmpR (op_eqD hu64) (pv 10) (pe_lst pa_nil) (nomark _)) (pw_or1 (pt_cmpR op_gt (pe_callB call_len (by rfl) TX.n_len (by decide +kernel) (pa_cons (pv 4) pa_nil)) pe_int (nomark _)))))) (pss_one (ps_ret (pv 0))) pss_nil)
  (pss_cons (ps_set (i := 3) sc__law_twin.nd rfl (Or.inr rfl) (pe_callB (cr_sortedPr hu64) (by rfl) TX.n_sorted (by decide +kernel) (pa_cons (pe_op op_cat (pv 3) (pe_lst (pa_cons (pe_tup (pa_cons (pe_ix ix_list (pv 10) pe_int (fun _ _ => rfl)) (pa_cons (pe_tup (pa_cons pe_str (pa_cons (pv 9) pa_nil))) pa_nil))) pa_nil))) pa_nil)))
  (pss_one (ps_ret (pe_tup (pa_cons (pv 2) (pa_cons (pv 3) (pa_cons (pe_op op_cat (pv 4) (pe_lst (pa_cons (pe_tup (pa_cons (pv 9) (pa_cons (pe_cal C__law_draw (hr.mono (by decide)) (by rfl) pass0 (pa_cons (pv 1) (pa_cons pe_int pa_nil))) (pa_cons (pe_callTy (kCallR (rListOf K) call_list_of rfl) (by rfl) TX.n_list (by decide +kernel) (pa_cons (pv 7) pa_nil)) pa_nil)))) pa_nil))) (pa_cons (pv 5) pa_nil))))))))))))))), ?_⟩
    refine r_begin (show L2.start _ _ = [some _, some _, none, none, none, none, none, none, none, none, none, none, none, none, none, none, none] from rfl) ?_
    try dsimp only [cxOf]
    walk_at "rr"
    refine r_t4 hv fun x y z u hx hy hz hu2 => ?_
    walk_at "rr"
    refine ⟨w0, 2, n, rfl, hw, by decide, by decide, by omega, fun way H1 y0 y1 b1 W1 => ?_⟩
    have f1 := b1.fr lv mw W1.lv
    walk_at "rr"
    refine r_lstA (as := [p.a]) f1.live (.one (f1.at_ hx)) (Nat.le_of_ble_eq_true rfl) fun l2 H2 hl2 s2 h2 => ?_
    have f2 := f1.trans (.of f1.live s2)
    walk_at "rr"
    refine CM (fun g : Going => some g.c) f2.live (f2.at_ hz) ?_ ?_
    · rintro D j x2 b zs H3 eb kk hb
      have hj := (List.getElem?_eq_some_iff.mp eb).1
      walk_at "rr"
      refine r_t3 hb fun n w r hn hw hr => ?_
      walk_at "rr"
      exact kk.mput eb rfl (Same.refl _) hr (by omega)
    rintro l3 H3 hl3 s3 h3
    have f3 := f2.trans (.of f2.live s3)
    have e3 : p.c.filterMap (fun g : Going => some g.c) = p.c.map fun g => g.c := by simp [List.filterMap_eq_map]
    rw [e3] at h3
    walk_at "rr"
    refine r_catA f3.live ((Fr.of f2.live s3).at_ h2) h3 (by rw [List.length_map]; show 1 + _ ≤ _; omega) fun R H4 hR s4 h4 => ?_
    have f4 := f3.trans (.of f3.live s4)
    have W4 := ((W1.same s2).same s3).same s4
    have b4 := ((b1.trans (But.of s2)).trans (But.of s3)).trans (But.of s4)
    walk_at "rr"
    refine r_lenA h4 ?_
    rw [List.length_append, List.length_map]
    walk_at "rr"
    refine ⟨w0, _, _, rfl, W4, by show (0 : Int) < ((1 + p.c.length : Nat) : Int); omega, by show ((1 + p.c.length : Nat) : Int).natAbs < _; omega, by omega, fun at_ H5 a0 a1 b5 W5 => ?_⟩
    have g5 := b5.fr f4.live mw W5.lv
    have f5 := f4.trans g5
    have b05 := b4.trans b5
    obtain ⟨row, erow⟩ := atI_there (xs := [p.a] ++ p.c.map fun g => g.c) a0 (by rw [List.length_append, List.length_map]; exact a1)
    have hrow : ∀ w ∈ row, w ∈ standingP p := fun w mw => by
      rw [mem_standing]
      rcases List.mem_append.mp (atI_mem' erow) with m | m
      · rw [List.mem_singleton.mp m] at mw
        exact .inl mw
      · obtain ⟨g, mg, e⟩ := List.mem_map.mp m
        exact .inr (.inr (.inr ⟨g, mg, by rw [e]; exact mw⟩))
    have lrow : row.length ≤ 6000 := by
      rcases List.mem_append.mp (atI_mem' erow) with m | m
      · rw [List.mem_singleton.mp m]
        omega
      · obtain ⟨g, mg, e⟩ := List.mem_map.mp m
        have := len_flat_mem (fun g : Going => g.c) mg
        rw [← e]
        omega
    walk_at "rr"
    refine r_xl (g5.at_ h4) erow fun xr hxr => ?_
    walk_at "rr"
    refine r_lstA (as := [(-1 : Int)]) f5.live (.cons rfl .nil) (Nat.le_of_ble_eq_true rfl) fun e6 H6 he6 s6 h6 => ?_
    have f6 := f5.trans (.of f5.live s6)
    walk_at "rr"
    refine CM (fun g : Going => some g.a) f6.live (f6.at_ hz) ?_ ?_
    · rintro D j x2 b zs H7 eb kk hb
      have hj := (List.getElem?_eq_some_iff.mp eb).1
      walk_at "rr"
      refine r_t3 hb fun n w r hn hw hr => ?_
      walk_at "rr"
      exact kk.mput eb rfl (Same.refl _) hn (by omega)
    rintro l7 H7 hl7 s7 h7
    have f7 := f6.trans (.of f6.live s7)
    have e7 : p.c.filterMap (fun g : Going => some g.a) = p.c.map (·.a) := by simp [List.filterMap_eq_map]
    rw [e7] at h7
    walk_at "rr"
    refine r_catA f7.live ((Fr.of f6.live s7).at_ h6) h7 (by rw [List.length_map]; show 1 + _ ≤ _; omega) fun l8 H8 hl8 s8 h8 => ?_
    have s58 := (s6.trans s7).trans s8
    have f8 := f5.trans (.of f5.live s58)
    have W8 := W5.same s58
    have b08 := b05.trans (But.of s58)
    have hxr8 := (Fr.of f5.live s58).at_ hxr
    obtain ⟨t8, x8, e8, eh8, r8⟩ := h8
    cases e8
    have r8 := ats_int r8
    subst r8
    walk_at "rr"
    refine ⟨l8, _, rfl, .inl (.inl (of_del eh8).1), by rw [List.length_append]; show 0 < 1 + _; omega, fun m mm hm => ?_⟩
    have m1 : -1 ≤ m := hm (-1) (by simp)
    have m2 : ∀ y ∈ p.c.map (·.a), y ≤ m := fun y my => hm y (List.mem_append_right _ my)
    walk_at "rr"
    refine ⟨w0, 3, _, rfl, W8, by decide, by decide, by omega, fun gap H9 g0 g1 b9 W9 => ?_⟩
    have g9 := b9.fr f8.live mw W9.lv
    have f9 := f8.trans g9
    have b09 := b08.trans b9
    have hxr9 := g9.at_ hxr8
    clear h2 h3 h4 h6 h7 eh8 hxr hxr8
    walk_at "rr"
    obtain ⟨number, en⟩ : ∃ z, z = m + 1 + gap := ⟨_, rfl⟩
    rw [← en]
    refine ⟨_, _, rfl, by decide, ?_⟩
    have hy9 := f9.at_ hy
    have ok_names : ∀ b ∈ p.b.map (·.1), PyData.strOk b = true := fun b mb => by
      obtain ⟨r, mr, rfl⟩ := List.mem_map.mp mb
      have hb := (isPic_parts ok).2.1
      unfold arePegs at hb
      rw [Bool.and_eq_true, List.all_eq_true] at hb
      have := hb.1 r mr
      rw [Bool.and_eq_true] at this
      exact isName_ok this.1
    refine CRM (lo := 1) (n := 8) (fun k => if PySem.Txt.mul "x" (1 + (k : Int)) ∈ p.b.map (·.1) then none else some (PySem.Txt.mul "x" (1 + (k : Int)))) f9.live ?_ ?_
    · rintro D k zs H10 hk kk
      walk_at "rr"
      refine ⟨_, _, rfl, rfl, ⟨by omega, by omega, by decide⟩, ?_⟩
      walk_at "rr"
      refine CM (fun b : Str × Wo => some b.1) kk.lv (kk.fr.at_ hy9) ?_ ?_
      · rintro D2 j x2 b zs2 H11 eb kk2 hb
        have hj := (List.getElem?_eq_some_iff.mp eb).1
        walk_at "rr"
        refine r_t2 hb fun n w hn hw => ?_
        walk_at "rr"
        exact kk2.mput eb rfl (Same.refl _) hn (by omega)
      rintro l11 H11 hl11 s11 h11
      have e11 : p.b.filterMap (fun b : Str × Wo => some b.1) = p.b.map (·.1) := by simp [List.filterMap_eq_map]
      rw [e11] at h11
      walk_at "rr"
      refine r_ninS h11 ?_
      walk_at "rr"
      refine r_nd (fun hin => ?_) (fun hin => ?_)
      · walk_at "rr"
        refine ⟨_, _, rfl, rfl, ⟨by omega, by omega, by decide⟩, ?_⟩
        exact kk.rput (c := PySem.Txt.mul "x" (1 + (k : Int))) (if_neg hin) s11 (at_str (isName_ok (xs_names k hk)))
      · exact kk.rskip (if_pos hin) s11
    rintro FR H10 hFR s10 h10
    have f10 := f9.trans (.of f9.live s10)
    have b010 := b09.trans (But.of s10)
    have W10 := W9.same s10
    have hxr10 := (Fr.of f9.live s10).at_ hxr9
    obtain ⟨fl, efl⟩ : ∃ z, z = (List.range 8).filterMap fun k : Nat => if PySem.Txt.mul "x" (1 + (k : Int)) ∈ p.b.map (·.1) then none else some (PySem.Txt.mul "x" (1 + (k : Int))) := ⟨_, rfl⟩
    rw [← efl] at h10
    have hfl : ∀ z ∈ fl, isName z = true ∧ z ∉ p.b.map (·.1) := fun z mz => by
      rw [efl] at mz
      obtain ⟨k, mk, e⟩ := List.mem_filterMap.mp mz
      split at e
      · cases e
      · rename_i c
        cases e
        exact ⟨xs_names k (List.mem_range.mp mk), c⟩
    clear efl
    walk_at "rr"
    refine r_d (fun cw => ?_) (fun cw => ?_)
    · walk_at "rr"
      exact q v p H10 f10 b010 (W10.mono (by omega)) (f10.at_ hv) ok la (by omega) lc ld (by omega)
    walk_at "rr"
    refine r_lstA (as := ([] : List Str)) f10.live .nil (by decide) fun e11 H11 he11 s11 h11 => ?_
    have f11 := f10.trans (.of f10.live s11)
    have b011 := b010.trans (But.of s11)
    have W11 := W10.same s11
    have hxr11 := (Fr.of f10.live s11).at_ hxr10
    have hfr11 := (Fr.of f10.live s11).at_ h10
    walk_at "rr"
    refine r_eqA (at_sub hfr11) (at_sub h11) ?_
    walk_at "rr"
    refine r_d (fun cf => ?_) (fun cf => ?_)
    · walk_at "rr"
      exact q v p H11 f11 b011 (W11.mono (by omega)) (f11.at_ hv) ok la (by omega) lc ld (by omega)
    walk_at "rr"
    refine r_lenA (f11.at_ hz) ?_
    walk_at "rr"
    refine r_d (fun c59 => ?_) (fun c59 => ?_)
    · walk_at "rr"
      exact q v p H11 f11 b011 (W11.mono (by omega)) (f11.at_ hv) ok la (by omega) lc ld (by omega)
    obtain ⟨name, enm⟩ : ∃ z, fl[0]? = some z := ⟨_, get_lt (List.length_pos_iff.mpr cf)⟩
    obtain ⟨okn, nin⟩ := hfl name (List.mem_of_getElem? enm)
    walk_at "rr"
    refine r_xl hfr11 (show atI fl 0 = some name from atI_nat enm) fun xn hxn => ?_
    walk_at "rr"
    refine r_tupA2 (x := .str "go") (ab := (("go", number) : Wo)) f11.live (at_str ok_go) (at_int (n := number)) fun t12 H12 ht12 s12 h12 => ?_
    have lv12 := f11.live.same s12
    walk_at "rr"
    refine r_tupA2 (ab := ((name, ("go", number)) : Str × Wo)) lv12 ((Fr.of f11.live s12).at_ hxn) h12 fun t13 H13 ht13 s13 h13 => ?_
    have lv13 := lv12.same s13
    walk_at "rr"
    refine r_lstA (as := [((name, ("go", number)) : Str × Wo)]) lv13 (.one h13) (Nat.le_of_ble_eq_true rfl) fun l14 H14 hl14 s14 h14 => ?_
    have s1114 := (s12.trans s13).trans s14
    have f14 := f11.trans (.of f11.live s1114)
    walk_at "rr"
    refine r_catA f14.live (f14.at_ hy) h14 (by show p.b.length + 1 ≤ _; omega) fun l15 H15 hl15 s15 h15 => ?_
    have f15 := f14.trans (.of f14.live s15)
    obtain ⟨t19, x19, e19, eh19, r19⟩ := id h15
    cases e19
    have pgs := (isPic_parts ok).2.1
    unfold arePegs at pgs
    rw [Bool.and_eq_true] at pgs
    have ndp : ((p.b ++ [((name, ("go", number)) : Str × Wo)]).map (·.1)).Nodup := by
      rw [List.map_append, List.nodup_append]
      refine ⟨riseS_nodup pgs.2, by simp, fun a ma c mc e => nin ?_⟩
      rw [List.map_cons, List.map_nil, List.mem_singleton] at mc
      rw [mc] at e
      exact (show a = name from e) ▸ ma
    walk_at "rr"
    refine ⟨l15, x19, _, rfl, (of_del eh19).1, r19.same del_sub, ndp, fun ys ls2 B2 hp hlow hB2 ays => ?_⟩
    have s16 := same_new (o := .lst ys) hB2
    have hB : At (del ns (upd H15 B2 (.lst ys))) (.ref B2) ls2 := ⟨B2, ys, rfl, del_at upd_same (f15.live.not hB2), (ays.out f15.live).same (del_same s16)⟩
    generalize upd H15 B2 (.lst ys) = H16 at s16 hB ⊢
    have f16 := f15.trans (.of f15.live s16)
    have s1116 := (s1114.trans s15).trans s16
    have b016 := b011.trans (But.of s1116)
    have W16 := W11.same s1116
    have hxr16 := (Fr.of f11.live s1116).at_ hxr11
    have mpl : ∀ r, r ∈ ls2 ↔ r ∈ p.b ∨ r = (name, (("go", number) : Wo)) := fun r => by
      rw [hp.mem_iff, List.mem_append, List.mem_singleton]
    have okp : arePegs ls2 = true := by
      unfold arePegs
      rw [Bool.and_eq_true, List.all_eq_true]
      refine ⟨fun r mr => ?_, rise_of_lower hlow⟩
      rcases (mpl r).mp mr with mr | rfl
      · exact List.all_eq_true.mp pgs.1 r mr
      · rw [Bool.and_eq_true]
        exact ⟨okn, isW_go (show 0 ≤ number by omega)⟩
    have llb : ls2.length = p.b.length + 1 := by
      rw [hp.length_eq, List.length_append]
      rfl
    walk_at "rr"
    refine ⟨w0, 9, _, rfl, W16, by decide, by decide, by omega, fun pl H17 p0 p1 b17 W17 => ?_⟩
    have g17 := b17.fr f16.live mw W17.lv
    have f17 := f16.trans g17
    have b017 := b016.trans b17
    have hB17 := g17.at_ hB
    walk_at "rr"
    refine r_listA f17.live (g17.at_ hxr16) fun l18 H18 hl18 s18 h18 => ?_
    have lv18 := f17.live.same s18
    walk_at "rr"
    refine r_tupA3 (ab := (⟨number, pl, row⟩ : Going)) lv18 (at_int (n := number)) (at_int (n := pl)) h18 fun t19 H19 ht19 s19 h19 => ?_
    have lv19 := lv18.same s19
    walk_at "rr"
    refine r_lstA (as := [(⟨number, pl, row⟩ : Going)]) lv19 (.one h19) (Nat.le_of_ble_eq_true rfl) fun l20 H20 hl20 s20 h20 => ?_
    have s1720 := (s18.trans s19).trans s20
    have f20 := f17.trans (.of f17.live s1720)
    walk_at "rr"
    refine r_catA f20.live (f20.at_ hz) h20 (by show p.c.length + 1 ≤ _; omega) fun l21 H21 hl21 s21 h21 => ?_
    have f21 := f20.trans (.of f20.live s21)
    have s1721 := s1720.trans s21
    walk_at "rr"
    refine r_tupA4 (ab := (⟨p.a, ls2, p.c ++ [⟨number, pl, row⟩], p.d⟩ : Pic)) f21.live (f21.at_ hx) ((Fr.of f17.live s1721).at_ hB17) h21 (f21.at_ hu2) fun r22 H22 hr22 s22 h22 => ?_
    have s1722 := s1721.trans s22
    have sl2 := standing_len (p := (⟨p.a, ls2, p.c ++ [⟨number, pl, row⟩], p.d⟩ : Pic))
    have e22 : (((p.c ++ [(⟨number, pl, row⟩ : Going)]).map fun g => g.c).flatten).length = ((p.c.map fun g => g.c).flatten).length + row.length := by
      rw [List.map_append, List.flatten_append, List.length_append, List.map_cons, List.map_nil, List.flatten_cons, List.flatten_nil, List.append_nil]
    refine q _ _ H22 (f17.trans (.of f17.live s1722)) (b017.trans (But.of s1722)) ((W17.same s1722).mono (by omega)) h22 (twin_pic ok (by omega) (fun y my => by have := m2 y my; omega) hrow p0 okp mpl) la (by show ls2.length ≤ 201; omega) (by rw [List.length_append]; show p.c.length + 1 ≤ 130; omega) ld ?_
    rw [sl2]
    show p.a.length + ls2.length + p.d.length + (((p.c ++ [(⟨number, pl, row⟩ : Going)]).map fun g => g.c).flatten).length ≤ 13000
    rw [e22]
    omega
/-! ### _law_apart -/
abbrev s__law_apart : Stmt := top 40
theorem sc__law_apart : FnScope ["found", "row", "rows", "sizes", "g", "place", "size"] ["found"] (defScope s__law_apart) := ⟨rfl, rfl, rfl, by decide +kernel, rfl, by decide +kernel, by decide +kernel⟩
def sp__law_apart (_ : PySem.W.Frag) : Sp := fun vs H Q _ => ∃ (v : V) (p : Pic) (L : List Addr), vs = [v] ∧ PicN H v p L ∧ p.a.length ≤ 20000 ∧ p.b.length ≤ 20000 ∧ p.c.length ≤ 1000 ∧ p.d.length ≤ 20000 ∧ (∀ g ∈ p.c, g.c.length ≤ 20000) ∧ ∀ H', Buts L H H' → Live L H' → Q (.bl true) H'
theorem ok__law_apart {fa : Addr} {fd : FuncData} (F : Fun K "_law_apart" "_law_apart" s__law_apart fa fd) (TX : Tx mg) :
    FnOk P w K mg base CX0 1 fa fd ["found"] (sp__law_apart K) := by
  refine F.ok sc__law_apart (fun vs H Q E h => ?_) (fun cdv A outer s H vs Q E hr h => ?_)
  · obtain ⟨v, p, L, rfl, pn, la, lb, lc, ld, lg, q⟩ := h
    rfl
  · obtain ⟨v, p, L, rfl, pn, la, lb, lc, ld, lg, q⟩ := h
    have hu := hu_of hr
    have hu64 := hr.units
    have hu65 := hu65_of hr
    obtain ⟨T, A, B, G, X, ts, rs, rfl, rfl, k⟩ := pn
    have eT := k.top
    have ll0 := k.lens
    have nd := k.nd
    have lrs := k.rows.len
    obtain ⟨szs, esz⟩ : ∃ z, z = p.a.length :: p.b.length :: p.c.length :: p.d.length :: p.c.map fun g => g.c.length := ⟨_, rfl⟩
    rw [← esz] at ll0
    have szle : ∀ n ∈ szs, n ≤ 20000 := fun n mn => by
      rw [esz] at mn
      simp only [List.mem_cons, List.mem_map] at mn
      rcases mn with rfl | rfl | rfl | rfl | ⟨g, mg, rfl⟩
      · exact la
      · exact lb
      · omega
      · exact ld
      · exact lg g mg
    refine ⟨_, (pss_cons (ps_set (i := 2) sc__law_apart.nd rfl (Or.inl rfl) (pe_op op_cat (pe_lst (pa_cons (pe_ix ix_tup (pv 0) pe_int (fun _ _ => rfl)) (pa_cons (pe_ix ix_tup (pv 0) pe_int (fun _ _ => rfl)) (pa_cons (pe_ix ix_tup (pv 0) pe_int (fun _ _ => rfl)) (pa_cons (pe_ix ix_tup (pv 0) pe_int (fun _ _ => rfl)) pa_nil))))) (pe_lc (own := [("g", 4), ("place", 5), ("row", 1)]) (g := gTup K 3 (gCons (gName 4) (gCons (gName 5) (gCons (gName 1) gNil)))) (tt := tYes) rfl sc__law_apart.nd (pi_list (pe_ix ix_tup (pv 0) pe_int (fun _ _ => rfl))) (blkOk_by (own := [("g", 4), ("place", 5), ("row", 1)]) (N := ["found", "row", "rows", "sizes", "g", "place", "size"]) (sc := defScope s__law_apart) (by decide +kernel)) (fun _ _ _ _ _ => (kPG (gTup K _ _) (pg_tup rfl (pgs_cons (pg_name (i := 4) sc__law_apart.nd rfl (Or.inl rfl)) (pgs_cons (pg_name (i := 5) sc__law_apart.nd rfl (Or.inl rfl)) (pgs_cons (pg_name (i := 1) sc__law_apart.nd rfl (Or.inl rfl)) pgs_nil)))) rfl)) (fun _ _ _ _ _ => pts_nil) (fun _ _ _ _ _ => (pv 1)))))
  (pss_cons (ps_setLc (i := 3) (own := [("row", 1)]) (g := gName 1) (tt := tYes) rfl sc__law_apart.nd rfl rfl (sw_true rfl rfl rfl (by decide +kernel)) (pi_list (pv 2)) (blkOk_by (own := [("row", 1)]) (N := ["found", "row", "rows", "sizes", "g", "place", "size"]) (sc := defScope s__law_apart) (by decide +kernel)) (fun _ _ _ _ _ => (pg_name (i := 1) sc__law_apart.nd rfl (Or.inl rfl))) (fun _ _ _ _ _ => pts_nil) (fun _ _ _ _ _ => (pe_callB (kCallR (rLenK K) call_len rfl) (by rfl) TX.n_len (by decide +kernel) (pa_cons (pv 1) pa_nil))))
  (pss_cons (ps_for PassesOwn.never rfl (pi_list (pv 2)) (pg_name (i := 1) sc__law_apart.nd rfl (Or.inl rfl))
  (pss_one (ps_expr (pe_bm PySem.F.plainAttrs_list PySem.F.slot_list_append PySem.F.type_list_append mt_append (pv 1) (pa_cons (pe_tup (pa_cons pe_str (pa_cons pe_int pa_nil))) pa_nil)))))
  (pss_one (ps_ret (pe_cmpR (op_eqD hu64) (pe_lc (own := [("row", 1)]) (g := gName 1) (tt := tYes) rfl sc__law_apart.nd (pi_list (pv 2)) (blkOk_by (own := [("row", 1)]) (N := ["found", "row", "rows", "sizes", "g", "place", "size"]) (sc := defScope s__law_apart) (by decide +kernel)) (fun _ _ _ _ _ => (pg_name (i := 1) sc__law_apart.nd rfl (Or.inl rfl))) (fun _ _ _ _ _ => pts_nil) (fun _ _ _ _ _ => (pe_callB (kCallR (rLenK K) call_len rfl) (by rfl) TX.n_len (by decide +kernel) (pa_cons (pv 1) pa_nil)))) (pe_lc (own := [("size", 6)]) (g := gName 6) (tt := tYes) rfl sc__law_apart.nd (pi_list (pv 3)) (blkOk_by (own := [("size", 6)]) (N := ["found", "row", "rows", "sizes", "g", "place", "size"]) (sc := defScope s__law_apart) (by decide +kernel)) (fun _ _ _ _ _ => (pg_name (i := 6) sc__law_apart.nd rfl (Or.inl rfl))) (fun _ _ _ _ _ => pts_nil) (fun _ _ _ _ _ => (pe_op op_add (pv 6) pe_int))) (nomark _))))))), ?_⟩
    refine r_begin (show L2.start _ _ = [some _, none, none, none, none, none, none] from rfl) ?_
    try dsimp only [cxOf]
    walk_at "rr"
    refine ⟨Nat.le_of_ble_eq_true rfl, fun l1 hl1 => ?_⟩
    have s1 := same_new (o := .lst [V.ref A, V.ref B, V.ref G, V.ref X]) hl1
    have e1 : (upd H l1 (.lst [V.ref A, V.ref B, V.ref G, V.ref X])) l1 = some (.lst [V.ref A, V.ref B, V.ref G, V.ref X]) := upd_same
    generalize upd H l1 (.lst [V.ref A, V.ref B, V.ref G, V.ref X]) = H1 at s1 e1 ⊢
    have eT1 := s1 _ _ eT
    walk_at "rr"
    refine ⟨G, rfl, ⟨_, .inl (.inl (s1 _ _ k.goings))⟩, C_list (xs := ts.map V.ref) (fun D i H2 => H1 D = none ∧ Same H1 H2 ∧ H2 D = some (.lst ((rs.take i).map V.ref))) ?_ ?_ ?_ ?_⟩
    · exact fun D hD => ⟨hD, same_new hD, upd_same⟩
    · rintro D i H2 _ ⟨_, s2, _⟩
      exact .inl (.inl (s2 _ _ (s1 _ _ k.goings)))
    · rintro D i x1 H2 ex ⟨hD, s2, eD⟩
      rw [List.getElem?_map] at ex
      obtain ⟨ti, eti, e2⟩ := Option.map_eq_some_iff.mp ex
      cases e2
      obtain ⟨ri, gi, eri, egi, kgi⟩ := k.rows.get eti
      have etu := s2 _ _ (s1 _ _ kgi.tup)
      have hi := (List.getElem?_eq_some_iff.mp eri).1
      walk_at "rr"
      refine ⟨_, eD, szl (by rw [List.length_map, List.length_take]; omega), hD, Same.own s2 hD, ?_⟩
      rw [upd_same, List.take_add_one, eri, List.map_append]
      rfl
    rintro D2 H2 hD2 ⟨_, s2, eD⟩
    rw [List.length_map, lrs.1, ← lrs.2, List.take_length] at eD
    walk_at "rr"
    refine r_cat (s2 _ _ e1) eD (sz (by rw [List.length_map]; show 4 + _ ≤ _; omega)) fun R hR => ?_
    have s3 := same_new (o := .lst ([V.ref A, V.ref B, V.ref G, V.ref X] ++ rs.map V.ref)) hR
    have e3 : (upd H2 R (.lst ([V.ref A, V.ref B, V.ref G, V.ref X] ++ rs.map V.ref))) R = some (.lst ((A :: B :: G :: X :: rs).map V.ref)) := upd_same
    generalize upd H2 R (.lst ([V.ref A, V.ref B, V.ref G, V.ref X] ++ rs.map V.ref)) = H3 at s3 e3 ⊢
    have s03 := (s1.trans s2).trans s3
    obtain ⟨L, eL⟩ : ∃ z, z = A :: B :: G :: X :: rs := ⟨_, rfl⟩
    rw [← eL] at e3 nd ll0 q
    have lL : L.length ≤ 1004 := by
      rw [eL]
      show rs.length + 4 ≤ 1004
      omega
    have lsz : L.length = szs.length := ll0.len
    have ll3 := ll0.same s03
    have RnL : R ∉ L := fun m => by
      obtain ⟨i, hi⟩ := List.mem_iff_getElem?.mp m
      obtain ⟨n, xs, _, e, _⟩ := (ll0.same (s1.trans s2)).get hi
      rw [hR] at e
      cases e
    clear e1 eD eT1
    walk_at "rr"
    refine ⟨R, rfl, ⟨_, .inl (.inl e3)⟩, C_list (xs := L.map V.ref) (fun D i H4 => H3 D = none ∧ Same H3 H4 ∧ H4 D = some (.lst ((szs.take i).map fun n : Nat => V.int (n : Int)))) ?_ ?_ ?_ ?_⟩
    · exact fun D hD => ⟨hD, same_new hD, upd_same⟩
    · rintro D i H4 _ ⟨_, s4, _⟩
      exact .inl (.inl (s4 _ _ e3))
    · rintro D i x1 H4 ex ⟨hD, s4, eD⟩
      rw [List.getElem?_map] at ex
      obtain ⟨ai, eai, e2⟩ := Option.map_eq_some_iff.mp ex
      cases e2
      obtain ⟨n, xs, en, ea, exl⟩ := ll3.get eai
      have hi := (List.getElem?_eq_some_iff.mp eai).1
      walk_at "rr"
      refine r_lenl (s4 _ _ ea) ?_
      refine ⟨_, eD, szl (by rw [List.length_map, List.length_take]; omega), hD, Same.own s4 hD, ?_⟩
      rw [upd_same, List.take_add_one, en, List.map_append, exl]
      rfl
    rintro S H4 hS ⟨_, s4, eS⟩
    rw [List.length_map, lsz, List.take_length] at eS
    have e4 := s4 _ _ e3
    have ll4 := ll3.same s4
    have SnL : S ∉ L := fun m => by
      obtain ⟨i, hi⟩ := List.mem_iff_getElem?.mp m
      obtain ⟨n, xs, _, e, _⟩ := ll3.get hi
      rw [hS] at e
      cases e
    walk_at "rr"
    refine ⟨R, rfl, ⟨_, .inl (.inl e4)⟩, L_list (xs := L.map V.ref) (fun i σ H5 => ∃ u1, σ = [some (.ref T), u1, some (.ref R), some (.ref S), none, none, none] ∧ Buts L H4 H5 ∧ ∀ (j : Nat) (a : Addr) (n : Nat), L[j]? = some a → szs[j]? = some n → ∃ xs, H5 a = some (.lst xs) ∧ xs.length = if j < i then n + 1 else n) ⟨_, rfl, Buts.refl, fun j a n ea en => ?_⟩ ?_ ?_ ?_⟩
    · obtain ⟨n2, xs, en2, e, exl⟩ := ll4.get ea
      rw [en] at en2
      cases en2
      exact ⟨xs, e, by rw [if_neg (Nat.not_lt_zero j)]; exact exl⟩
    · rintro i σ H5 _ ⟨_, _, b5, _⟩
      exact .inl (.inl (b5 _ _ e4 RnL))
    · rintro i x1 σ H5 ex ⟨u1, rfl, b5, k5⟩
      rw [List.getElem?_map] at ex
      obtain ⟨ai, eai, e2⟩ := Option.map_eq_some_iff.mp ex
      cases e2
      have hi := (List.getElem?_eq_some_iff.mp eai).1
      obtain ⟨n, en⟩ : ∃ n, szs[i]? = some n := ⟨_, get_lt (by omega)⟩
      obtain ⟨xs, ea, exl⟩ := k5 i ai n eai en
      rw [if_neg (Nat.lt_irrefl i)] at exl
      have := szle n (List.mem_of_getElem? en)
      walk_at "rr"
      refine r_tyL ea ?_
      walk_at "rr"
      refine ⟨Nat.le_of_ble_eq_true rfl, fun t6 ht6 => ?_⟩
      have s6 := same_new (o := .tup [V.str "num", V.int 5]) ht6
      generalize upd H5 t6 (.tup [V.str "num", V.int 5]) = H6 at s6 ⊢
      walk_at "rr"
      refine r_app (s6 _ _ ea) (szl (by omega)) ?_
      walk_at "rr"
      refine ⟨_, rfl, fun c o e nc => ?_, fun j a m ea2 em => ?_⟩
      · rw [upd_ne (show c ≠ ai from fun z => nc (by rw [z]; exact List.mem_of_getElem? eai))]
        exact s6 _ _ (b5 _ _ e nc)
      · by_cases z : j = i
        · subst z
          rw [eai] at ea2
          cases ea2
          rw [en] at em
          cases em
          exact ⟨_, upd_same, by rw [List.length_append, exl, if_pos (Nat.lt_succ_self j)]; rfl⟩
        · obtain ⟨ys, ey, ely⟩ := k5 j a m ea2 em
          have na : a ≠ ai := fun e => z ((List.getElem?_inj (List.getElem?_eq_some_iff.mp ea2).1 nd).mp (by rw [ea2, eai, e]))
          refine ⟨ys, by rw [upd_ne na]; exact s6 _ _ ey, ?_⟩
          rw [ely]
          by_cases c : j < i
          · rw [if_pos c, if_pos (by omega)]
          · rw [if_neg c, if_neg (by omega)]
    · rintro σ H5 ⟨u1, rfl, b5, k5⟩
      have ll5 : LenL H5 L (szs.map (· + 1)) := LenL.of (by rw [List.length_map]; exact lsz) fun i a n ea en => by
        rw [List.getElem?_map] at en
        obtain ⟨m, em, e⟩ := Option.map_eq_some_iff.mp en
        cases e
        obtain ⟨xs, e1, e2⟩ := k5 i a m ea em
        rw [if_pos (by rw [List.length_map]; exact (List.getElem?_eq_some_iff.mp ea).1)] at e2
        exact ⟨xs, e1, e2⟩
      have e5 := b5 _ _ e4 RnL
      have eS5 := b5 _ _ eS SnL
      walk_at "rr"
      refine ⟨R, rfl, ⟨_, .inl (.inl e5)⟩, C_list (xs := L.map V.ref) (fun D i H6 => H5 D = none ∧ Same H5 H6 ∧ H6 D = some (.lst (((szs.map (· + 1)).take i).map fun n : Nat => V.int (n : Int)))) ?_ ?_ ?_ ?_⟩
      · exact fun D hD => ⟨hD, same_new hD, upd_same⟩
      · rintro D i H6 _ ⟨_, s6, _⟩
        exact .inl (.inl (s6 _ _ e5))
      · rintro D i x1 H6 ex ⟨hD, s6, eD⟩
        rw [List.getElem?_map] at ex
        obtain ⟨ai, eai, e2⟩ := Option.map_eq_some_iff.mp ex
        cases e2
        obtain ⟨n, xs, en, ea, exl⟩ := ll5.get eai
        have hi := (List.getElem?_eq_some_iff.mp eai).1
        walk_at "rr"
        refine r_lenl (s6 _ _ ea) ?_
        refine ⟨_, eD, szl (by rw [List.length_map, List.length_take, List.length_map]; omega), hD, Same.own s6 hD, ?_⟩
        rw [upd_same, List.take_add_one, en, List.map_append, exl]
        rfl
      rintro S2 H6 hS2 ⟨_, s6, eS2⟩
      rw [List.length_map, ll5.len, List.take_length] at eS2
      walk_at "rr"
      refine ⟨S, rfl, ⟨_, .inl (.inl (s6 _ _ eS5))⟩, C_list (xs := szs.map fun n : Nat => V.int (n : Int)) (fun D i H7 => H6 D = none ∧ Same H6 H7 ∧ H7 D = some (.lst (((szs.map (· + 1)).take i).map fun n : Nat => V.int (n : Int)))) ?_ ?_ ?_ ?_⟩
      · exact fun D hD => ⟨hD, same_new hD, upd_same⟩
      · rintro D i H7 _ ⟨_, s7, _⟩
        exact .inl (.inl (s7 _ _ (s6 _ _ eS5)))
      · rintro D i x1 H7 ex ⟨hD, s7, eD⟩
        rw [List.getElem?_map] at ex
        obtain ⟨n, en, e2⟩ := Option.map_eq_some_iff.mp ex
        cases e2
        have hi := (List.getElem?_eq_some_iff.mp en).1
        walk_at "rr"
        refine ⟨_, eD, szl (by rw [List.length_map, List.length_take, List.length_map]; omega), hD, Same.own s7 hD, ?_⟩
        rw [upd_same, List.take_add_one, List.getElem?_map, en, List.map_append]
        rfl
      rintro S3 H7 hS3 ⟨_, s7, eS3⟩
      rw [List.length_map] at eS3
      have e8 : ((szs.map (· + 1)).take szs.length) = szs.map (· + 1) := List.take_of_length_le (by rw [List.length_map]; exact Nat.le_refl _)
      rw [e8] at eS3
      have atN : ∀ l : List Nat, Ats H7 (l.map fun n : Nat => V.int (n : Int)) l := fun l => by
        induction l with
        | nil => exact .nil
        | cons a r ih => exact .cons rfl ih
      have h2 : At H7 (.ref S2) (szs.map (· + 1)) := ⟨S2, _, rfl, s7 _ _ eS2, atN _⟩
      have h3 : At H7 (.ref S3) (szs.map (· + 1)) := ⟨S3, _, rfl, eS3, atN _⟩
      walk_at "rr"
      refine r_eqA h2 h3 ?_
      rw [decide_eq_true rfl]
      refine q H7 (fun c o e nc => s7 _ _ (s6 _ _ (b5 _ _ (s4 _ _ (s03 _ _ e)) nc))) fun a ma => ?_
      obtain ⟨i, hi⟩ := List.mem_iff_getElem?.mp ma
      obtain ⟨n, xs, _, e, _⟩ := ll5.get hi
      exact .lst (s7 _ _ (s6 _ _ e))
/-! ### _law_leads -/
abbrev s__law_leads : Stmt := top 41
theorem sc__law_leads : FnScope ["worths", "found", "one"] ["worths"] (defScope s__law_leads) := ⟨rfl, rfl, rfl, by decide +kernel, rfl, by decide +kernel, by decide +kernel⟩
def sp__law_leads (_ : PySem.W.Frag) : Sp := fun vs H Q _ => ∃ (ns : List Addr) (v : V) (l : List Wo), vs = [v] ∧ Live ns H ∧ At (del ns H) v l ∧ l.length ≤ 90000 ∧ ∀ (r : Addr) H', Same H H' → H r = none → At (del ns H') (.ref r) (thingsOf l) → Q (.ref r) H'
theorem leads {K : PySem.W.Frag} {ns : List Addr} {H : Hp} {v : V} {l : List Wo} {Q : VK} {E : XK} (lv : Live ns H) (h : At (del ns H) v l) (hl : l.length ≤ 90000) (q : ∀ (p : Addr) (H' : Hp), H p = none → Same H H' → At (del ns H') (.ref p) (thingsOf l) → Q (.ref p) H') : sp__law_leads K [v] H Q E := ⟨ns, v, l, rfl, lv, h, hl, fun r H' s n a => q r H' n s a⟩
theorem ok__law_leads {fa : Addr} {fd : FuncData} (F : Fun K "_law_leads" "_law_leads" s__law_leads fa fd) (TX : Tx mg) :
    FnOk P w K mg base CX0 1 fa fd ["worths"] (sp__law_leads K) := by
  refine F.ok sc__law_leads (fun vs H Q E h => ?_) (fun cdv A outer s H vs Q E hr h => ?_)
  · obtain ⟨ns, v, l, rfl, lv, hv, hl, q⟩ := h
    rfl
  · obtain ⟨ns, v, l, rfl, lv, hv, hl, q⟩ := h
    have hu := hu_of hr
    have hu64 := hr.units
    have hu65 := hu65_of hr
    refine ⟨_, (pss_cons (ps_set (i := 1) sc__law_leads.nd rfl (Or.inl rfl) (pe_lst pa_nil))
  (pss_cons (ps_for PassesOwn.never rfl (pi_list (pv 0)) (pg_name (i := 2) sc__law_leads.nd rfl (Or.inl rfl))
  (pss_one (ps_if (PW.pt (pw_and (pt_cmpR op_in_seq (pe_ix ix_tup (pv 2) pe_int (fun _ _ => rfl)) (pe_tup (pa_cons pe_str (pa_cons pe_str pa_nil))) (by rfl)) (pw_and1 (pt_cmpR (op_notInD hu65) (pv 2) (pv 1) (by rfl))))) (pss_one (ps_expr (pe_bm PySem.F.plainAttrs_list PySem.F.slot_list_append PySem.F.type_list_append mt_append (pv 1) (pa_cons (pv 2) pa_nil)))) pss_nil)))
  (pss_one (ps_ret (pv 1))))), ?_⟩
    refine r_begin (show L2.start _ _ = [some _, none, none] from rfl) ?_
    try dsimp only [cxOf]
    walk_at "rr"
    refine r_lstO (as := ([] : List Wo)) lv .nil (by decide) fun f H1 hf s1 f1 o1 => ?_
    walk_at "rr"
    refine LA (ms := f :: ns) (f1.at_ hv) (fun i σ H2 => ∃ u, σ = [some v, some (.ref f), u] ∧ Same H H2 ∧ Fr (f :: ns) H1 (f :: ns) H2 ∧ Own (f :: ns) H2 f ((l.take i).foldl thStep [])) ⟨_, rfl, s1, .refl f1.live, o1⟩ (fun i σ H2 _ ⟨_, _, _, g, _⟩ => g) ?_ ?_
    · rintro i b x σ H2 eb hb ⟨u, rfl, s2, f2, o2⟩
      have hl2 := things_len (l.take i)
      rw [List.length_take] at hl2
      have hi := (List.getElem?_eq_some_iff.mp eb).1
      have estep := foldl_take thStep [] l i b eb
      walk_at "rr"
      refine r_x20 hb fun y hy => ?_
      obtain ⟨rfl, oky⟩ : y = .str b.1 ∧ _ := hy
      walk_at "rr"
      refine ⟨by show 2 ≤ sizeLine; decide, fun t ht => ?_⟩
      have s3 := same_new (o := .tup [.str "box", .str "go"]) ht
      have et : (upd H2 t (.tup [.str "box", .str "go"])) t = some (.tup [.str "box", .str "go"]) := upd_same
      generalize upd H2 t (.tup [.str "box", .str "go"]) = H3 at s3 et ⊢
      have f3 := Fr.of f2.live s3
      have o3 := o2.fr f3 fun o e => s3 _ _ e
      refine ⟨t, _, rfl, .inr (.inl (.inl et)), rfl, rfl, ?_⟩
      have eT : (inV (.str b.1) [.str "box", .str "go"]) = isT b := by
        unfold isT
        by_cases c1 : b.1 = "box"
        · rw [c1]; rfl
        · by_cases c2 : b.1 = "go"
          · rw [c2]; decide +kernel
          · have e1 : (b.1 == "box") = false := beq_eq_false_iff_ne.mpr c1
            have e2 : (b.1 == "go") = false := beq_eq_false_iff_ne.mpr c2
            rw [e1, e2]
            simp [inV, eqV, Ne.symm c1, Ne.symm c2]
      rw [if_neg (by decide), eT]
      walk_at "rr"
      cases hT : isT b with
      | false =>
        walk_at "rr"
        exact ⟨_, rfl, s2.trans s3, f2.trans f3, by rw [estep, thStep_no hT]; exact o3⟩
      | true =>
        obtain ⟨ys, ey, ry⟩ := id o3
        walk_at "rr"
        refine r_ninA (l := (l.take i).foldl thStep []) (at_sub (f3.at_ hb)) ⟨f, ys, rfl, ey, ry.same del_sub⟩ ?_
        walk_at "rr"
        refine r_nd (fun hin => ?_) (fun hin => ?_)
        · walk_at "rr"
          refine o3.tyL ?_
          walk_at "rr"
          refine r_appO f3.live List.mem_cons_self o3 (f3.at_ hb) (by unfold thingsOf at hl2; omega) fun H4 f4 b4 o4 => ?_
          walk_at "rr"
          exact ⟨_, rfl, But.back (s2.trans s3) hf b4, (f2.trans f3).trans f4, by rw [estep, thStep_new hT hin]; exact o4⟩
        · walk_at "rr"
          exact ⟨_, rfl, s2.trans s3, f2.trans f3, by rw [estep, thStep_old hin]; exact o3⟩
    · rintro σ H2 ⟨u, rfl, s2, f2, o2⟩
      rw [List.take_length] at o2
      walk_at "rr"
      exact q f H2 s2 hf (o2.shut (lv.not hf))
/-! ### _law_roots -/
abbrev s__law_roots : Stmt := top 43
theorem sc__law_roots : FnScope ["picture", "name", "worth"] ["picture"] (defScope s__law_roots) := ⟨rfl, rfl, rfl, by decide +kernel, rfl, by decide +kernel, by decide +kernel⟩
def sp__law_roots (_ : PySem.W.Frag) : Sp := fun vs H Q _ => ∃ (ns : List Addr) (v : V) (p : Pic), vs = [v] ∧ Live ns H ∧ At (del ns H) v p ∧ (standingP p).length ≤ 40000 ∧ ∀ (r : Addr) H', Same H H' → H r = none → At (del ns H') (.ref r) (rootsP p) → Q (.ref r) H'
theorem ok__law_roots {fa : Addr} {fd : FuncData} (F : Fun K "_law_roots" "_law_roots" s__law_roots fa fd) (TX : Tx mg)
    (C__law_leads : Cal P w K mg base CX0 1 "_law_leads" ["worths"] (sp__law_leads K)) :
    FnOk P w K mg base CX0 2 fa fd ["picture"] (sp__law_roots K) := by
  refine F.ok sc__law_roots (fun vs H Q E h => ?_) (fun cdv A outer s H vs Q E hr h => ?_)
  · obtain ⟨ns, v, p, rfl, lv, hv, hl, q⟩ := h
    rfl
  · obtain ⟨ns, v, p, rfl, lv, hv, hl, q⟩ := h
    have hu := hu_of hr
    have hu64 := hr.units
    have hu65 := hu65_of hr
    unfold standingP at hl
    rw [List.length_append, List.length_append, List.length_append, List.length_map, List.length_map] at hl
    refine ⟨_, (pss_one (ps_ret (pe_cal C__law_leads (hr.mono (by decide)) (by rfl) pass0 (pa_cons (pe_op op_cat (pe_ix ix_tup (pv 0) pe_int (fun _ _ => rfl)) (pe_lc (own := [("name", 1), ("worth", 2)]) (g := gTup K 2 (gCons (gName 1) (gCons (gName 2) gNil))) (tt := tYes) rfl sc__law_roots.nd (pi_list (pe_ix ix_tup (pv 0) pe_int (fun _ _ => rfl))) (blkOk_by (own := [("name", 1), ("worth", 2)]) (N := ["picture", "name", "worth"]) (sc := defScope s__law_roots) (by decide +kernel)) (fun _ _ _ _ _ => (kPG (gTup K _ _) (pg_tup rfl (pgs_cons (pg_name (i := 1) sc__law_roots.nd rfl (Or.inl rfl)) (pgs_cons (pg_name (i := 2) sc__law_roots.nd rfl (Or.inl rfl)) pgs_nil))) rfl)) (fun _ _ _ _ _ => pts_nil) (fun _ _ _ _ _ => (pv 2)))) pa_nil)))), ?_⟩
    refine r_begin (show L2.start _ _ = [some _, none, none] from rfl) ?_
    try dsimp only [cxOf]
    walk_at "rr"
    refine r_x40 hv fun x hx => ?_
    walk_at "rr"
    refine r_x41 hv fun y hy => ?_
    walk_at "rr"
    refine CM (fun r : Str × Wo => some r.2) lv hy ?_ ?_
    · rintro D i x1 b zs H1 eb k hb
      walk_at "rr"
      refine r_t2 hb fun n w hn hw => ?_
      walk_at "rr"
      exact k.mput eb rfl (Same.refl _) hw
    · rintro D H1 hD s1 h1
      rw [List.filterMap_eq_map'] at h1
      have f1 := Fr.of lv s1
      walk_at "rr"
      refine r_catA f1.live (f1.at_ hx) h1 (by rw [List.length_map]; omega) fun p2 H2 hp2 s2 h2 => ?_
      have s12 := s1.trans s2
      walk_at "rr"
      refine leads (f1.live.same s2) h2 (by rw [List.length_append, List.length_map]; omega) fun r H3 hr s3 h3 => ?_
      walk_at "rr"
      exact q r H3 (s12.trans s3) (s12.free hr) h3
/-! ### _law_held -/
abbrev s__law_held : Stmt := top 44
theorem sc__law_held : FnScope ["picture", "held", "b", "worth", "g", "place", "row"] ["picture"] (defScope s__law_held) := ⟨rfl, rfl, rfl, by decide +kernel, rfl, by decide +kernel, by decide +kernel⟩
def sp__law_held (_ : PySem.W.Frag) : Sp := fun vs H Q _ => ∃ (ns : List Addr) (v : V) (p : Pic), vs = [v] ∧ Live ns H ∧ At (del ns H) v p ∧ (standingP p).length ≤ 40000 ∧ p.c.length ≤ 40000 ∧ (thingsP p).Nodup ∧ ∀ (d : Addr) H', Same H H' → H d = none → Live (d :: ns) H' → Dc (d :: ns) H' d (heldP p) → Q (.ref d) H'
theorem ok__law_held {fa : Addr} {fd : FuncData} (F : Fun K "_law_held" "_law_held" s__law_held fa fd) (TX : Tx mg)
    (C__law_leads : Cal P w K mg base CX0 1 "_law_leads" ["worths"] (sp__law_leads K)) :
    FnOk P w K mg base CX0 2 fa fd ["picture"] (sp__law_held K) := by
  refine F.ok sc__law_held (fun vs H Q E h => ?_) (fun cdv A outer s H vs Q E hr h => ?_)
  · obtain ⟨ns, v, p, rfl, lv, hv, hl, hlc, nd, q⟩ := h
    rfl
  · obtain ⟨ns, v, p, rfl, lv, hv, hl, hlc, nd, q⟩ := h
    have hu := hu_of hr
    have hu64 := hr.units
    have hu65 := hu65_of hr
    unfold standingP at hl
    rw [List.length_append, List.length_append, List.length_append, List.length_map, List.length_map] at hl
    have nd2 := nd
    unfold thingsP at nd2
    have hkey := nd2
    have nbg : ("box" : Str) ≠ "go" := by decide +kernel
    refine ⟨_, (pss_cons (ps_set (i := 1) sc__law_held.nd rfl (Or.inl rfl) pe_dnewT)
  (pss_cons (ps_for PassesOwn.never rfl (pi_list (pe_ix ix_tup (pv 0) pe_int (fun _ _ => rfl))) (pg_tup rfl (pgs_cons (pg_name (i := 2) sc__law_held.nd rfl (Or.inl rfl)) (pgs_cons (pg_name (i := 3) sc__law_held.nd rfl (Or.inl rfl)) pgs_nil)))
  (pss_one (ps_dput hu (pv 1) (pe_tup (pa_cons pe_str (pa_cons (pv 2) pa_nil))) (pe_cal C__law_leads (hr.mono (by decide)) (by rfl) pass0 (pa_cons (pe_lst (pa_cons (pv 3) pa_nil)) pa_nil)) rfl)))
  (pss_cons (ps_for PassesOwn.never rfl (pi_list (pe_ix ix_tup (pv 0) pe_int (fun _ _ => rfl))) (pg_tup rfl (pgs_cons (pg_name (i := 4) sc__law_held.nd rfl (Or.inl rfl)) (pgs_cons (pg_name (i := 5) sc__law_held.nd rfl (Or.inl rfl)) (pgs_cons (pg_name (i := 6) sc__law_held.nd rfl (Or.inl rfl)) pgs_nil))))
  (pss_one (ps_dput hu (pv 1) (pe_tup (pa_cons pe_str (pa_cons (pv 4) pa_nil))) (pe_cal C__law_leads (hr.mono (by decide)) (by rfl) pass0 (pa_cons (pv 6) pa_nil)) rfl)))
  (pss_one (ps_ret (pv 1)))))), ?_⟩
    refine r_begin (show L2.start _ _ = [some _, none, none, none, none, none, none] from rfl) ?_
    try dsimp only [cxOf]
    walk_at "rr"
    intro d hd
    have s1 : Same H (upd H d (.dT [])) := same_new hd
    have f1 : Fr ns H (d :: ns) (upd H d (.dT [])) := (newD (κ := Wo) (α := List Wo) lv hd).1
    have d1 : Dc (κ := Wo) (α := List Wo) (d :: ns) (upd H d (.dT [])) d [] := (newD lv hd).2
    generalize upd H d (.dT []) = H1 at s1 f1 d1 ⊢
    walk_at "rr"
    refine r_x43 (f1.at_ hv) fun x hx => ?_
    walk_at "rr"
    refine LA (ms := d :: ns) hx (fun i σ H2 => ∃ u2 u3 u4 u5 u6, σ = [some v, some (.ref d), u2, u3, u4, u5, u6] ∧ Same H H2 ∧ Fr (d :: ns) H1 (d :: ns) H2 ∧ Dc (d :: ns) H2 d ((p.d.take i).map fun r => ((("box", r.1) : Wo), thingsOf [r.2]))) ⟨_, _, _, _, _, rfl, s1, .refl f1.live, d1⟩ (fun i σ H2 _ ⟨_, _, _, _, _, _, _, g, _⟩ => g) ?_ ?_
    · rintro i b x1 σ H2 eb hb ⟨u2, u3, u4, u5, u6, rfl, s2, f2, d2⟩
      have hi := (List.getElem?_eq_some_iff.mp eb).1
      walk_at "rr"
      refine r_t2 hb fun n w hn hw => ?_
      walk_at "rr"
      refine r_lstA (as := [b.2]) f2.live (.one hw) (by show 1 ≤ 100000; decide) fun l3 H3 hl3 s3 h3 => ?_
      walk_at "rr"
      refine leads (f2.live.same s3) h3 (by show 1 ≤ _; decide) fun r H4 hr s4 h4 => ?_
      have s24 := s3.trans s4
      have f4 := Fr.of f2.live s24
      walk_at "rr"
      refine r_tupA2 (x := .str "box") (ab := (("box", b.1) : Wo)) f4.live (at_str ok_box) (f4.at_ hn) fun t5 H5 ht5 s5 h5 => ?_
      have s25 := s24.trans s5
      have f5 := Fr.of f2.live s25
      walk_at "rr"
      refine r_dputA f5.live List.mem_cons_self (d2.fr f5 fun o e => s25 _ _ e) (at_sub h5) ((Fr.of f4.live s5).at_ h4) (by rw [List.length_map, List.length_take]; omega) fun H6 f6 b6 d6 => ?_
      walk_at "rr"
      refine ⟨_, _, _, _, _, rfl, But.back (s2.trans s25) hd b6, (f2.trans f5).trans f6, ?_⟩
      rw [List.take_add_one, eb, List.map_append]
      rw [putA_new] at d6
      · exact d6
      · rw [List.map_map]
        intro m
        obtain ⟨r2, m2, e2⟩ := List.mem_map.mp m
        have nb := (List.nodup_append.mp hkey).1
        have e3 : (p.d.map fun r => (("box", r.1) : Wo))[i]? = some (("box", b.1) : Wo) := by rw [List.getElem?_map, eb]; rfl
        refine nodup_take nb e3 ?_
        rw [← List.map_take]
        exact List.mem_map.mpr ⟨r2, m2, e2⟩
    · rintro σ H2 ⟨u2, u3, u4, u5, u6, rfl, s2, f2, d2⟩
      rw [List.take_length] at d2
      walk_at "rr"
      refine r_x42 ((f1.trans f2).at_ hv) fun y hy => ?_
      walk_at "rr"
      refine LA (ms := d :: ns) hy (fun i σ H3 => ∃ u2 u3 u4 u5 u6, σ = [some v, some (.ref d), u2, u3, u4, u5, u6] ∧ Same H H3 ∧ Fr (d :: ns) H2 (d :: ns) H3 ∧ Dc (d :: ns) H3 d (p.d.map (fun r => ((("box", r.1) : Wo), thingsOf [r.2])) ++ (p.c.take i).map fun r => ((("go", r.a) : Wo), thingsOf r.c))) ⟨_, _, _, _, _, rfl, s2, .refl f2.live, by simpa using d2⟩ (fun i σ H2 _ ⟨_, _, _, _, _, _, _, g, _⟩ => g) ?_ ?_
      · rintro i b x1 σ H3 eb hb ⟨u2, u3, u4, u5, u6, rfl, s3, f3, d3⟩
        have hi := (List.getElem?_eq_some_iff.mp eb).1
        have lb := len_flat_mem (fun g : Going => g.c) (List.mem_of_getElem? eb)
        walk_at "rr"
        refine r_t3 hb fun n w u hn hw hu => ?_
        walk_at "rr"
        refine leads f3.live hu (by omega) fun r H4 hr s4 h4 => ?_
        have f4 := Fr.of f3.live s4
        walk_at "rr"
        refine r_tupA2 (x := .str "go") (ab := (("go", b.a) : Wo)) f4.live (at_str ok_go) (f4.at_ hn) fun t5 H5 ht5 s5 h5 => ?_
        have s35 := s4.trans s5
        have f5 := Fr.of f3.live s35
        walk_at "rr"
        refine r_dputA f5.live List.mem_cons_self (d3.fr f5 fun o e => s35 _ _ e) (at_sub h5) ((Fr.of f4.live s5).at_ h4) (by rw [List.length_append, List.length_map, List.length_map, List.length_take]; omega) fun H6 f6 b6 d6 => ?_
        walk_at "rr"
        refine ⟨_, _, _, _, _, rfl, But.back (s3.trans s35) hd b6, (f3.trans f5).trans f6, ?_⟩
        rw [List.take_add_one, eb, List.map_append]
        rw [putA_new, List.append_assoc] at d6
        · exact d6
        · rw [List.map_append, List.map_map, List.map_map]
          intro m
          rcases List.mem_append.mp m with m | m
          · obtain ⟨r2, m2, e2⟩ := List.mem_map.mp m
            exact nbg (Prod.mk.inj e2).1
          · obtain ⟨r2, m2, e2⟩ := List.mem_map.mp m
            have nb := (List.nodup_append.mp hkey).2.1
            have e3 : (p.c.map fun r => (("go", r.a) : Wo))[i]? = some (("go", b.a) : Wo) := by rw [List.getElem?_map, eb]; rfl
            refine nodup_take nb e3 ?_
            rw [← List.map_take]
            exact List.mem_map.mpr ⟨r2, m2, e2⟩
      · rintro σ H3 ⟨u2, u3, u4, u5, u6, rfl, s3, f3, d3⟩
        rw [List.take_length] at d3
        walk_at "rr"
        exact q d H3 s3 hd f3.live d3
/-! ### _law_far -/
abbrev s__law_far : Stmt := top 45
theorem sc__law_far : FnScope ["picture", "held", "far", "now", "many", "one", "after", "other"] ["picture"] (defScope s__law_far) := ⟨rfl, rfl, rfl, by decide +kernel, rfl, by decide +kernel, by decide +kernel⟩
def sp__law_far (_ : PySem.W.Frag) : Sp := fun vs H Q _ => ∃ (ns : List Addr) (v : V) (p : Pic), vs = [v] ∧ Live ns H ∧ At (del ns H) v p ∧ isPic p = true ∧ (standingP p).length ≤ 40000 ∧ p.c.length ≤ 130 ∧ p.d.length ≤ 130 ∧ ∀ (f : Addr) (l : List (Wo × Int)) H', Same H H' → H f = none → Live (f :: ns) H' → Dc (f :: ns) H' f l → (l.map (·.1)).Nodup → (∀ w, w ∈ l.map (·.1) ↔ Reach p w) → Q (.ref f) H'
theorem ok__law_far {fa : Addr} {fd : FuncData} (F : Fun K "_law_far" "_law_far" s__law_far fa fd) (TX : Tx mg)
    (C__law_held : Cal P w K mg base CX0 2 "_law_held" ["picture"] (sp__law_held K))
    (C__law_leads : Cal P w K mg base CX0 1 "_law_leads" ["worths"] (sp__law_leads K))
    (C__law_roots : Cal P w K mg base CX0 2 "_law_roots" ["picture"] (sp__law_roots K)) :
    FnOk P w K mg base CX0 3 fa fd ["picture"] (sp__law_far K) := by
  refine F.ok sc__law_far (fun vs H Q E h => ?_) (fun cdv A outer s H vs Q E hr h => ?_)
  · obtain ⟨ns, v, p, rfl, lv, hv, ok, ls, lc, ld, q⟩ := h
    rfl
  · obtain ⟨ns, v, p, rfl, lv, hv, ok, ls, lc, ld, q⟩ := h
    have hu := hu_of hr
    have hu64 := hr.units
    have hu65 := hu65_of hr
    have lth : (thingsP p).length ≤ 260 := by
      unfold thingsP
      rw [List.length_append, List.length_map, List.length_map]
      omega
    refine ⟨_, (pss_cons (ps_set (i := 1) sc__law_far.nd rfl (Or.inl rfl) (pe_cal C__law_held (hr.mono (by decide)) (by rfl) pass0 (pa_cons (pv 0) pa_nil)))
  (pss_cons (ps_set (i := 2) sc__law_far.nd rfl (Or.inr rfl) pe_dnewT)
  (pss_cons (ps_set (i := 3) sc__law_far.nd rfl (Or.inl rfl) (pe_cal C__law_roots (hr.mono (by decide)) (by rfl) pass0 (pa_cons (pv 0) pa_nil)))
  (pss_cons (ps_set (i := 4) sc__law_far.nd rfl (Or.inl rfl) pe_int)
  (pss_cons (ps_while PassesOwn.never (pt_cmpR (op_neD hu64) (pv 3) (pe_lst pa_nil) (nomark _)) (pss_cons (ps_set (i := 4) sc__law_far.nd rfl (Or.inl rfl) (pe_op op_add (pv 4) pe_int))
  (pss_cons (ps_for PassesOwn.never rfl (pi_list (pv 3)) (pg_name (i := 5) sc__law_far.nd rfl (Or.inl rfl))
  (pss_one (ps_dput hu (pv 2) (pv 5) (pv 4) rfl)))
  (pss_cons (ps_set (i := 6) sc__law_far.nd rfl (Or.inl rfl) (pe_lst pa_nil))
  (pss_cons (ps_for PassesOwn.never rfl (pi_list (pv 3)) (pg_name (i := 5) sc__law_far.nd rfl (Or.inl rfl))
  (pss_one (ps_expr (pe_bm PySem.F.plainAttrs_list PySem.F.slot_list_extend PySem.F.type_list_extend mt_extend (pv 6) (pa_cons (pe_lc (own := [("other", 7)]) (g := gName 7) rfl sc__law_far.nd (pi_list (pe_dget hu (pv 1) (pv 5) (fun _ _ => rfl))) (blkOk_by (own := [("other", 7)]) (N := ["picture", "held", "far", "now", "many", "one", "after", "other"]) (sc := defScope s__law_far) (by decide +kernel)) (fun _ _ _ _ _ => (pg_name (i := 7) sc__law_far.nd rfl (Or.inl rfl))) (fun _ _ _ _ _ => pts_one (pt_cmp (pc_dnotin hu (pv 7) (pv 2)))) (fun _ _ _ _ _ => (pv 7))) pa_nil)))))
  (pss_one (ps_set (i := 3) sc__law_far.nd rfl (Or.inl rfl) (pe_cal C__law_leads (hr.mono (by decide)) (by rfl) pass0 (pa_cons (pv 6) pa_nil)))))))))
  (pss_one (ps_ret (pv 2)))))))), ?_⟩
    refine r_begin (show L2.start _ _ = [some _, none, none, none, none, none, none, none] from rfl) ?_
    try dsimp only [cxOf]
    walk_at "rr"
    refine ⟨ns, v, p, rfl, lv, hv, by omega, by omega, things_nd ok, fun d H1 s1 hd lv1 d1 => ?_⟩
    have f1 : Fr ns H (d :: ns) H1 := ⟨(del_more hd).trans (del_same s1), lv1⟩
    walk_at "rr"
    intro f hf
    have s2 : Same H1 (upd H1 f (.dT [])) := same_new hf
    have f2 : Fr (d :: ns) H1 (f :: d :: ns) (upd H1 f (.dT [])) := (newD (κ := Wo) (α := Int) lv1 hf).1
    have dF : Dc (κ := Wo) (α := Int) (f :: d :: ns) (upd H1 f (.dT [])) f [] := (newD lv1 hf).2
    generalize upd H1 f (.dT []) = H2 at s2 f2 dF ⊢
    have d2 := d1.fr f2 fun o e => s2 _ _ e
    have nfd : d ≠ f := fun e => by
      obtain ⟨kvs, e1, _⟩ := d1
      rw [e, hf] at e1
      cases e1
    have s02 := s1.trans s2
    have hf0 : H f = none := s1.free hf
    walk_at "rr"
    refine ⟨f :: d :: ns, v, p, rfl, f2.live, (f1.trans f2).at_ hv, by omega, fun nv H3 s3 hnv h3 => ?_⟩
    have f3 := Fr.of f2.live s3
    have dF3 := dF.fr f3 fun o e => s3 _ _ e
    have d3 := d2.fr f3 fun o e => s3 _ _ e
    walk_at "rr"
    refine r_while (fun m σ H4 => ∃ (nv : V) (now : List Wo) (l : List (Wo × Int)) (many : Int) (u5 u6 : Option V), σ = [some v, some (.ref d), some (.ref f), some nv, some (.int many), u5, u6, none] ∧ Same H H4 ∧ Fr (f :: d :: ns) H3 (f :: d :: ns) H4 ∧ Dc (f :: d :: ns) H4 f l ∧ Dc (f :: d :: ns) H4 d (heldP p) ∧ At (del (f :: d :: ns) H4) nv now ∧
        now.Nodup ∧ (∀ w ∈ now, w ∉ l.map (·.1) ∧ Reach p w) ∧ (l.map (·.1)).Nodup ∧ (∀ w ∈ l.map (·.1), Reach p w) ∧ (∀ a ∈ l.map (·.1), ∀ hs, getA (heldP p) a = some hs → ∀ w ∈ hs, w ∈ l.map (·.1) ∨ w ∈ now) ∧ (∀ w ∈ rootsP p, w ∈ l.map (·.1) ∨ w ∈ now) ∧ m = 300 - l.length)
      300 ⟨_, rootsP p, [], 0, none, none, rfl, s02.trans s3, .refl f3.live, dF3, d3, h3, things_nodup _, fun w m => ⟨by simp, .root m⟩, .nil, fun w m => (by cases m), fun a m => (by cases m), fun w m => .inr m, rfl⟩ ?_
    rintro m σ H4 ⟨nv, now, l, many, u5, u6, rfl, s4, f4, dF4, d4, hnow, ndn, kn, ndl, kl, cl, rl, em⟩
    have lnow : now.length ≤ 260 := by
      have := nodup_le ndn fun w mw => (kn w mw).2.thing ok
      omega
    have lll : l.length ≤ 260 := by
      have := nodup_le ndl fun w mw => (kl w mw).thing ok
      rw [List.length_map] at this
      omega
    walk_at "rr"
    refine r_lstA (as := ([] : List Wo)) f4.live .nil (by decide) fun e5 H5 he5 s5 h5 => ?_
    have f5 := Fr.of f4.live s5
    walk_at "rr"
    refine r_neA (at_sub (f5.at_ hnow)) (at_sub h5) ?_
    walk_at "rr"
    have dF5 := dF4.fr f5 fun o e => s5 _ _ e
    have d5 := d4.fr f5 fun o e => s5 _ _ e
    refine r_nd (fun hn0 => ?_) (fun hn0 => ?_)
    · walk_at "rr"
      refine LA (ms := f :: d :: ns) (f5.at_ hnow) (fun i σ H6 => ∃ (u5 : Option V) (l2 : List (Wo × Int)), σ = [some v, some (.ref d), some (.ref f), some nv, some (.int (many + 1)), u5, u6, none] ∧ Same H H6 ∧ Fr (f :: d :: ns) H5 (f :: d :: ns) H6 ∧ Dc (f :: d :: ns) H6 f l2 ∧ Dc (f :: d :: ns) H6 d (heldP p) ∧ l2.map (·.1) = l.map (·.1) ++ now.take i) ⟨_, l, rfl, s4.trans s5, .refl f5.live, dF5, d5, by simp⟩ (fun i σ H6 _ ⟨_, _, _, _, g, _⟩ => g) ?_ ?_
      · rintro i b x σ H6 eb hb ⟨u5, l2, rfl, s6, f6, dF6, d6, el2⟩
        have hl2 : l2.length ≤ 1000 := by
          have := congrArg List.length el2
          rw [List.length_map, List.length_append, List.length_map, List.length_take] at this
          omega
        walk_at "rr"
        refine r_dputA f6.live List.mem_cons_self dF6 (at_sub hb) (at_int (n := many + 1)) (by omega) fun H7 f7 b7 d7 => ?_
        walk_at "rr"
        refine ⟨_, _, rfl, But.back s6 hf0 b7, f6.trans f7, d7, d6.fr f7 fun o e => b7 _ _ e nfd, ?_⟩
        rw [putA_keys, if_neg, el2, List.take_add_one, eb, List.append_assoc]
        · rfl
        · rw [el2]
          intro mm
          rcases List.mem_append.mp mm with mm | mm
          · exact (kn b (List.mem_of_getElem? eb)).1 mm
          · exact nodup_take ndn eb mm
      · rintro σ H6 ⟨u5, l2, rfl, s6, f6, dF6, d6, el2⟩
        rw [List.take_length] at el2
        have f56 := f5.trans f6
        have hnow6 := f56.at_ hnow
        walk_at "rr"
        refine r_lstO (as := ([] : List Wo)) f6.live .nil (by decide) fun af H7 haf s7 f7 o7 => ?_
        have haf0 : H af = none := s6.free haf
        have naf : af ≠ f ∧ af ≠ d := by
          constructor
          · intro e
            obtain ⟨kvs, e1, _⟩ := dF6
            rw [← e, haf] at e1
            cases e1
          · intro e
            obtain ⟨kvs, e1, _⟩ := d6
            rw [← e, haf] at e1
            cases e1
        walk_at "rr"
        refine LA (ms := af :: f :: d :: ns) (f7.at_ hnow6) (fun i σ H8 => ∃ (u5 : Option V) (c : List Wo), σ = [some v, some (.ref d), some (.ref f), some nv, some (.int (many + 1)), u5, some (.ref af), none] ∧ Same H H8 ∧ Fr (af :: f :: d :: ns) H7 (af :: f :: d :: ns) H8 ∧ Dc (af :: f :: d :: ns) H8 f l2 ∧ Dc (af :: f :: d :: ns) H8 d (heldP p) ∧ Own (af :: f :: d :: ns) H8 af c ∧ c.length ≤ 260 * i ∧ (∀ w ∈ c, w ∉ l2.map (·.1) ∧ Reach p w) ∧ ∀ (j : Nat) (a : Wo) (hs : List Wo), j < i → now[j]? = some a → getA (heldP p) a = some hs → ∀ w ∈ hs, w ∈ l2.map (·.1) ∨ w ∈ c)
          ⟨_, [], rfl, s6.trans s7, .refl f7.live, dF6.fr f7 fun o e => s7 _ _ e, d6.fr f7 fun o e => s7 _ _ e, o7, Nat.zero_le _, fun w mw => (by cases mw), fun j a hs hj => (by omega)⟩ (fun i σ H8 _ ⟨_, _, _, _, g, _⟩ => g) ?_ ?_
        · rintro i b x σ H8 eb hb ⟨u5, c, rfl, s8, f8, dF8, d8, o8, lc8, kc, jc⟩
          have mb := List.mem_of_getElem? eb
          have rb := (kn b mb).2
          obtain ⟨hs, ehs⟩ := heldP_some (rb.thing ok)
          have lhs : hs.length ≤ 260 := by
            have := nodup_le (heldP_nd ehs) (heldP_mem ok ehs)
            omega
          have hi := (List.getElem?_eq_some_iff.mp eb).1
          walk_at "rr"
          refine o8.tyL ?_
          walk_at "rr"
          refine r_dgetA d8.rd (at_sub hb) ehs fun y hy => ?_
          walk_at "rr"
          refine CM (fun w : Wo => if w ∈ l2.map (·.1) then none else some w) f8.live hy ?_ ?_
          · rintro D j x2 b2 zs H9 eb2 kk hb2
            have g9 := Fr.of f8.live kk.ex
            walk_at "rr"
            refine r_dninA (dF8.fr g9 fun o e => kk.ex _ _ e).rd (at_sub hb2) ?_
            walk_at "rr"
            refine r_nd (fun hin => ?_) (fun hin => ?_)
            · walk_at "rr"
              exact kk.mput eb2 (if_neg hin) (Same.refl _) hb2
            · exact kk.mskip eb2 (if_pos hin) (Same.refl _)
          · rintro D H9 hD s9 h9
            have g9 := Fr.of f8.live s9
            have lf := List.length_filterMap_le (fun w : Wo => if w ∈ l2.map (·.1) then none else some w) hs
            walk_at "rr"
            refine r_extO g9.live List.mem_cons_self (o8.fr g9 fun o e => s9 _ _ e) h9 (by omega) fun H10 f10 b10 o10 => ?_
            have mf : ∀ w, w ∈ hs.filterMap (fun w : Wo => if w ∈ l2.map (·.1) then none else some w) ↔ w ∈ hs ∧ w ∉ l2.map (·.1) := fun w => by
              rw [List.mem_filterMap]
              constructor
              · rintro ⟨a, ma, e⟩
                split at e
                · cases e
                · rename_i nm
                  cases e
                  exact ⟨ma, nm⟩
              · rintro ⟨ma, nm⟩
                exact ⟨w, ma, if_neg nm⟩
            walk_at "rr"
            refine ⟨_, _, rfl, But.back (s8.trans s9) haf0 b10, (f8.trans g9).trans f10, (dF8.fr g9 fun o e => s9 _ _ e).fr f10 fun o e => b10 _ _ e naf.1.symm, (d8.fr g9 fun o e => s9 _ _ e).fr f10 fun o e => b10 _ _ e naf.2.symm, o10, by rw [List.length_append]; omega, fun w mw => ?_, fun j a hs2 hj ha eh w mw => ?_⟩
            · rcases List.mem_append.mp mw with mw | mw
              · exact kc w mw
              · have := (mf w).mp mw
                exact ⟨this.2, .step rb ehs this.1⟩
            · by_cases cj : j < i
              · exact (jc j a hs2 cj ha eh w mw).imp id fun m => List.mem_append_left _ m
              · have : j = i := by omega
                subst this
                rw [eb] at ha
                cases ha
                rw [ehs] at eh
                cases eh
                by_cases mk : w ∈ l2.map (·.1)
                · exact .inl mk
                · exact .inr (List.mem_append_right _ ((mf w).mpr ⟨mw, mk⟩))
        · rintro σ H8 ⟨u5, c, rfl, s8, f8, dF8, d8, o8, lc8, kc, jc⟩
          have hc8 := o8.shut (f6.live.not haf)
          have fd := Fr.drop f8.live
          walk_at "rr"
          refine leads fd.live hc8 (by have := Nat.mul_le_mul (Nat.le_refl 260) lnow; omega) fun nv2 H9 hnv2 s9 h9 => ?_
          have f9 := Fr.of fd.live s9
          have mt : ∀ w, w ∈ thingsOf c ↔ w ∈ c := fun w => by
            rw [mem_thingsOf]
            exact ⟨fun h => h.1, fun h => ⟨h, ((pic_mem ok w).mp ((kc w h).2.thing ok)).2⟩⟩
          have mk2 : ∀ w, w ∈ l2.map (·.1) ↔ w ∈ l.map (·.1) ∨ w ∈ now := fun w => by rw [el2, List.mem_append]
          have npos : 0 < now.length := List.length_pos_iff.mpr hn0
          have ll2 : l2.length = l.length + now.length := by
            have := congrArg List.length el2
            rwa [List.length_map, List.length_append, List.length_map] at this
          walk_at "rr"
          refine ⟨300 - l2.length, ?_, _, thingsOf c, l2, many + 1, _, _, rfl, s8.trans s9, ((f56.trans f7).trans f8).trans (fd.trans f9) |> fun g => f4.trans g, (dF8.fr fd fun o e => e).fr f9 fun o e => s9 _ _ e, (d8.fr fd fun o e => e).fr f9 fun o e => s9 _ _ e, h9, things_nodup _, fun w mw => kc w ((mt w).mp mw), ?_, fun w mw => ?_, fun a ma hs eh w mw => ?_, fun w mw => ?_, rfl⟩
          · omega
          · rw [el2, List.nodup_append]
            exact ⟨ndl, ndn, fun a ma b mb e => (kn b mb).1 (e ▸ ma)⟩
          · exact ((mk2 w).mp mw).elim (kl w) fun m => (kn w m).2
          · rw [mt]
            rcases (mk2 a).mp ma with ma | ma
            · rcases cl a ma hs eh w mw with h | h
              · exact .inl ((mk2 w).mpr (.inl h))
              · exact .inl ((mk2 w).mpr (.inr h))
            · obtain ⟨j, ej⟩ := List.mem_iff_getElem?.mp ma
              exact jc j a hs (List.getElem?_eq_some_iff.mp ej).1 ej eh w mw
          · rcases rl w mw with h | h
            · exact .inl ((mk2 w).mpr (.inl h))
            · exact .inl ((mk2 w).mpr (.inr h))
    · walk_at "rr"
      have s45 := s4.trans s5
      have fF := f4.trans f5
      have lF : Live (f :: ns) H5 := fF.live.sub fun x mx => (List.mem_cons.mp mx).elim (fun e => e ▸ List.mem_cons_self) fun mx => List.mem_cons_of_mem _ (List.mem_cons_of_mem _ mx)
      refine q f l H5 s45 hf0 lF (dF5.fr (.sub fF.live fun x mx => (List.mem_cons.mp mx).elim (fun e => e ▸ List.mem_cons_self) fun mx => List.mem_cons_of_mem _ (List.mem_cons_of_mem _ mx)) fun o e => e) ndl fun w => ⟨kl w, fun r => ?_⟩
      subst hn0
      exact reach_closed (fun w mw => (rl w mw).resolve_right (by simp)) (fun a ma hs eh w mw => (cl a ma hs eh w mw).resolve_right (by simp)) r
/-! ### _law_no_truths -/
abbrev s__law_no_truths : Stmt := top 46
theorem sc__law_no_truths : FnScope ["picture", "pile", "pegs", "goings", "boxes", "worth", "numbers", "g", "place", "row", "b", "name", "number"] ["picture"] (defScope s__law_no_truths) := ⟨rfl, rfl, rfl, by decide +kernel, rfl, by decide +kernel, by decide +kernel⟩
def sp__law_no_truths (_ : PySem.W.Frag) : Sp := fun vs H Q _ => ∃ (ns : List Addr) (v : V) (p : Pic), vs = [v] ∧ Live ns H ∧ At (del ns H) v p ∧ (standingP p).length ≤ 50000 ∧ p.c.length ≤ 1000 ∧ p.d.length ≤ 1000 ∧ ∀ H', Same H H' → Q (.bl true) H'
theorem ok__law_no_truths {fa : Addr} {fd : FuncData} (F : Fun K "_law_no_truths" "_law_no_truths" s__law_no_truths fa fd) (TX : Tx mg) :
    FnOk P w K mg base CX0 1 fa fd ["picture"] (sp__law_no_truths K) := by
  refine F.ok sc__law_no_truths (fun vs H Q E h => ?_) (fun cdv A outer s H vs Q E hr h => ?_)
  · obtain ⟨ns, v, p, rfl, lv, hv, hl, lc, ld, q⟩ := h
    rfl
  · obtain ⟨ns, v, p, rfl, lv, hv, hl, lc, ld, q⟩ := h
    have hu := hu_of hr
    have hu64 := hr.units
    have hu65 := hu65_of hr
    have sl := standing_len (p := p)
    refine ⟨_, (pss_cons (ps_asg (pv 0) (pg_tup rfl (pgs_cons (pg_name (i := 1) sc__law_no_truths.nd rfl (Or.inl rfl)) (pgs_cons (pg_name (i := 2) sc__law_no_truths.nd rfl (Or.inl rfl)) (pgs_cons (pg_name (i := 3) sc__law_no_truths.nd rfl (Or.inl rfl)) (pgs_cons (pg_name (i := 4) sc__law_no_truths.nd rfl (Or.inl rfl)) pgs_nil))))))
  (pss_cons (ps_set (i := 6) sc__law_no_truths.nd rfl (Or.inl rfl) (pe_op op_cat (pe_lc (own := [("worth", 5)]) (g := gName 5) (tt := tYes) rfl sc__law_no_truths.nd (pi_list (pv 1)) (blkOk_by (own := [("worth", 5)]) (N := ["picture", "pile", "pegs", "goings", "boxes", "worth", "numbers", "g", "place", "row", "b", "name", "number"]) (sc := defScope s__law_no_truths) (by decide +kernel)) (fun _ _ _ _ _ => (pg_name (i := 5) sc__law_no_truths.nd rfl (Or.inl rfl))) (fun _ _ _ _ _ => pts_nil) (fun _ _ _ _ _ => (pe_ix (kIxR (rIxT K) ix_tup rfl) (pv 5) pe_int (fun _ _ => rfl)))) (pe_lc (own := [("name", 11), ("worth", 5)]) (g := gTup K 2 (gCons (gName 11) (gCons (gName 5) gNil))) (tt := tYes) rfl sc__law_no_truths.nd (pi_list (pv 2)) (blkOk_by (own := [("name", 11), ("worth", 5)]) (N := ["picture", "pile", "pegs", "goings", "boxes", "worth", "numbers", "g", "place", "row", "b", "name", "number"]) (sc := defScope s__law_no_truths) (by decide +kernel)) (fun _ _ _ _ _ => (kPG (gTup K _ _) (pg_tup rfl (pgs_cons (pg_name (i := 11) sc__law_no_truths.nd rfl (Or.inl rfl)) (pgs_cons (pg_name (i := 5) sc__law_no_truths.nd rfl (Or.inl rfl)) pgs_nil))) rfl)) (fun _ _ _ _ _ => pts_nil) (fun _ _ _ _ _ => (pe_ix (kIxR (rIxT K) ix_tup rfl) (pv 5) pe_int (fun _ _ => rfl))))))
  (pss_cons (ps_for PassesOwn.never rfl (pi_list (pv 3)) (pg_tup rfl (pgs_cons (pg_name (i := 7) sc__law_no_truths.nd rfl (Or.inl rfl)) (pgs_cons (pg_name (i := 8) sc__law_no_truths.nd rfl (Or.inl rfl)) (pgs_cons (pg_name (i := 9) sc__law_no_truths.nd rfl (Or.inl rfl)) pgs_nil))))
  (pss_one (ps_set (i := 6) sc__law_no_truths.nd rfl (Or.inl rfl) (pe_op op_cat (pe_op op_cat (pv 6) (pe_lst (pa_cons (pv 7) (pa_cons (pv 8) pa_nil)))) (pe_lc (own := [("worth", 5)]) (g := gName 5) (tt := tYes) rfl sc__law_no_truths.nd (pi_list (pv 9)) (blkOk_by (own := [("worth", 5)]) (N := ["picture", "pile", "pegs", "goings", "boxes", "worth", "numbers", "g", "place", "row", "b", "name", "number"]) (sc := defScope s__law_no_truths) (by decide +kernel)) (fun _ _ _ _ _ => (pg_name (i := 5) sc__law_no_truths.nd rfl (Or.inl rfl))) (fun _ _ _ _ _ => pts_nil) (fun _ _ _ _ _ => (pe_ix (kIxR (rIxT K) ix_tup rfl) (pv 5) pe_int (fun _ _ => rfl))))))))
  (pss_cons (ps_for PassesOwn.never rfl (pi_list (pv 4)) (pg_tup rfl (pgs_cons (pg_name (i := 10) sc__law_no_truths.nd rfl (Or.inl rfl)) (pgs_cons (pg_name (i := 5) sc__law_no_truths.nd rfl (Or.inl rfl)) pgs_nil)))
  (pss_one (ps_set (i := 6) sc__law_no_truths.nd rfl (Or.inl rfl) (pe_op op_cat (pv 6) (pe_lst (pa_cons (pv 10) (pa_cons (pe_ix ix_tup (pv 5) pe_int (fun _ _ => rfl)) pa_nil)))))))
  (pss_one (ps_ret (pe_not (pe_callB (cr_any rfl) (by rfl) TX.n_any (by decide +kernel) (pa_cons (pe_lc (own := [("number", 12)]) (g := gName 12) (tt := tYes) rfl sc__law_no_truths.nd (pi_list (pv 6)) (blkOk_by (own := [("number", 12)]) (N := ["picture", "pile", "pegs", "goings", "boxes", "worth", "numbers", "g", "place", "row", "b", "name", "number"]) (sc := defScope s__law_no_truths) (by decide +kernel)) (fun _ _ _ _ _ => (pg_name (i := 12) sc__law_no_truths.nd rfl (Or.inl rfl))) (fun _ _ _ _ _ => pts_nil) (fun _ _ _ _ _ => (pe_callB (kCallR (rIsi K) call_isi rfl) (by rfl) TX.n_isinstance (by decide +kernel) (pa_cons (pv 12) (pa_cons (pe_bltn (v := .ty "bool") (by rfl) TX.n_bool (by decide +kernel) rfl) pa_nil))))) pa_nil))))))))), ?_⟩
    refine r_begin (show L2.start _ _ = [some _, none, none, none, none, none, none, none, none, none, none, none, none] from rfl) ?_
    try dsimp only [cxOf]
    walk_at "rr"
    refine r_t4 hv fun x y z u hx hy hz hu2 => ?_
    walk_at "rr"
    refine CM (fun b : Wo => some b.2) lv hx ?_ ?_
    · rintro D j x2 b zs H1 eb kk hb
      have hj := (List.getElem?_eq_some_iff.mp eb).1
      obtain ⟨tt1, xx1, yy1, rfl, et1, e11, e12⟩ := id hb
      have et1 := (of_del et1).1
      cases e12
      walk_at "rr"
      exact kk.mput eb rfl (Same.refl _) (at_int (n := b.2)) (by omega)
    rintro l1 H1 hl1 s1 h1
    have f1 := Fr.of lv s1
    walk_at "rr"
    refine CM (fun b : Str × Wo => some b.2.2) f1.live (f1.at_ hy) ?_ ?_
    · rintro D j x2 b zs H2 eb kk hb
      have hj := (List.getElem?_eq_some_iff.mp eb).1
      walk_at "rr"
      refine r_t2 hb fun n w hn hw => ?_
      obtain ⟨tt1, xx1, yy1, rfl, et1, e11, e12⟩ := id hw
      have et1 := (of_del et1).1
      cases e12
      walk_at "rr"
      exact kk.mput eb rfl (Same.refl _) (at_int (n := b.2.2)) (by omega)
    rintro l2 H2 hl2 s2 h2
    have f2 := f1.trans (.of f1.live s2)
    walk_at "rr"
    have c1 := List.length_filterMap_le (fun b : Wo => some b.2) p.a
    have c2 := List.length_filterMap_le (fun b : Str × Wo => some b.2.2) p.b
    refine r_catA f2.live ((Fr.of f1.live s2).at_ h1) h2 (by omega) fun l3 H3 hl3 s3 h3 => ?_
    have f3 := f2.trans (.of f2.live s3)
    have s03 := (s1.trans s2).trans s3
    have l3l : (p.a.filterMap (fun b : Wo => some b.2) ++ p.b.filterMap fun b : Str × Wo => some b.2.2).length ≤ p.a.length + p.b.length := by
      rw [List.length_append]
      omega
    generalize p.a.filterMap (fun b : Wo => some b.2) ++ p.b.filterMap (fun b : Str × Wo => some b.2.2) = nl at h3 l3l
    have lv3 := f3.live
    walk_at "rr"
    refine LA (ms := ns) (f3.at_ hz) (fun i σ H4 => ∃ (vl : V) (l : List Int) (u7 u8 u9 u5 : Option V), σ = [some v, some x, some y, some z, some u, u5, some vl, u7, u8, u9, none, none, none] ∧ Same H3 H4 ∧ At (del ns H4) vl l ∧ l.length ≤ nl.length + 2 * i + (((p.c.take i).map fun g => g.c).flatten).length) ⟨_, nl, _, _, _, _, rfl, Same.refl _, h3, by simp⟩ (fun i σ H4 _ ⟨_, _, _, _, _, _, _, s, _⟩ => .of lv3 s) ?_ ?_
    · rintro i b x2 σ H4 eb hb ⟨vl, l, u7, u8, u9, u5, rfl, s4, hvl, ll⟩
      have hi := (List.getElem?_eq_some_iff.mp eb).1
      have lv4 := lv3.same s4
      have lbc := len_flat_mem (fun g : Going => g.c) (List.mem_of_getElem? eb)
      have ltk : (((p.c.take i).map fun g => g.c).flatten).length + b.c.length ≤ ((p.c.map fun g => g.c).flatten).length := by
        have := flat_sub (List.take_sublist (i + 1) p.c)
        rw [List.take_add_one, eb, List.map_append, List.flatten_append, List.length_append] at this
        have e : (((Option.some b).toList.map fun g : Going => g.c).flatten).length = b.c.length := by
          show ((([b] : List Going).map fun g => g.c).flatten).length = _
          simp
        rw [e] at this
        exact this
      walk_at "rr"
      refine r_t3 hb fun n w r hn hw hr => ?_
      walk_at "rr"
      refine r_lstA (as := [b.a, b.b]) lv4 (.cons hn (.cons hw .nil)) (Nat.le_of_ble_eq_true rfl) fun l5 H5 hl5 s5 h5 => ?_
      have f5 := Fr.of lv4 s5
      walk_at "rr"
      refine r_catA f5.live (f5.at_ hvl) h5 (by show l.length + 2 ≤ _; omega) fun l6 H6 hl6 s6 h6 => ?_
      have f6 := f5.trans (.of f5.live s6)
      walk_at "rr"
      refine CM (fun b : Wo => some b.2) f6.live (f6.at_ hr) ?_ ?_
      · rintro D j x2 c zs H7 ec kk hc
        have hj := (List.getElem?_eq_some_iff.mp ec).1
        obtain ⟨tt1, xx1, yy1, rfl, et1, e11, e12⟩ := id hc
        have et1 := (of_del et1).1
        cases e12
        walk_at "rr"
        exact kk.mput ec rfl (Same.refl _) (at_int (n := c.2)) (by omega)
      rintro l7 H7 hl7 s7 h7
      have f7 := f6.trans (.of f6.live s7)
      have c7 := List.length_filterMap_le (fun b : Wo => some b.2) b.c
      walk_at "rr"
      refine r_catA f7.live ((Fr.of f6.live s7).at_ h6) h7 (by rw [List.length_append]; show l.length + 2 + _ ≤ _; omega) fun l8 H8 hl8 s8 h8 => ?_
      walk_at "rr"
      refine ⟨_, _, _, _, _, _, rfl, (((s4.trans s5).trans s6).trans s7).trans s8, h8, ?_⟩
      rw [List.length_append, List.length_append, List.take_add_one, eb, List.map_append, List.flatten_append, List.length_append]
      have e : (((Option.some b).toList.map fun g : Going => g.c).flatten).length = b.c.length := by
        show ((([b] : List Going).map fun g => g.c).flatten).length = _
        simp
      rw [e]
      show l.length + 2 + _ ≤ _
      omega
    rintro σ H4 ⟨vl, l, u7, u8, u9, u5, rfl, s4, hvl, ll⟩
    rw [List.take_length] at ll
    have f4 := f3.trans (.of lv3 s4)
    have lv4 := f4.live
    have lL : l.length ≤ 60000 := by omega
    clear ll
    walk_at "rr"
    refine LA (ms := ns) (f4.at_ hu2) (fun i σ H5 => ∃ (vl : V) (l : List Int) (u7 u8 u9 u5 ub : Option V), σ = [some v, some x, some y, some z, some u, u5, some vl, u7, u8, u9, ub, none, none] ∧ Same H4 H5 ∧ At (del ns H5) vl l ∧ l.length ≤ 60000 + 2 * i) ⟨_, l, _, _, _, _, _, rfl, Same.refl _, hvl, by omega⟩ (fun i σ H5 _ ⟨_, _, _, _, _, _, _, _, s, _⟩ => .of lv4 s) ?_ ?_
    · rintro i b x2 σ H5 eb hb ⟨vl, l, u7, u8, u9, u5, ub, rfl, s5, hvl, ll⟩
      have hi := (List.getElem?_eq_some_iff.mp eb).1
      have lv5 := lv4.same s5
      walk_at "rr"
      refine r_t2 hb fun n w hn hw => ?_
      obtain ⟨tt1, xx1, yy1, rfl, et1, e11, e12⟩ := id hw
      have et1 := (of_del et1).1
      cases e12
      walk_at "rr"
      refine r_lstA (as := [b.1, b.2.2]) lv5 (.cons hn (.cons rfl .nil)) (Nat.le_of_ble_eq_true rfl) fun l6 H6 hl6 s6 h6 => ?_
      have f6 := Fr.of lv5 s6
      walk_at "rr"
      refine r_catA f6.live (f6.at_ hvl) h6 (by show l.length + 2 ≤ _; omega) fun l7 H7 hl7 s7 h7 => ?_
      walk_at "rr"
      refine ⟨_, _, _, _, _, _, _, rfl, (s5.trans s6).trans s7, h7, ?_⟩
      rw [List.length_append]
      show l.length + 2 ≤ _
      omega
    rintro σ H5 ⟨vl, l, u7, u8, u9, u5, ub, rfl, s5, hvl, ll⟩
    have lv5 := lv4.same s5
    walk_at "rr"
    refine CM (fun _ : Int => some false) lv5 hvl ?_ ?_
    · rintro D j x2 b zs H6 eb kk hb
      cases hb
      have hj := (List.getElem?_eq_some_iff.mp eb).1
      walk_at "rr"
      exact kk.mput eb rfl (Same.refl _) at_bl (by omega)
    rintro l6 H6 hl6 s6 h6
    walk_at "rr"
    refine r_anyA h6 ?_
    have eany : ((l.filterMap fun _ : Int => some false).any id) = false := by
      rw [List.any_eq_false]
      intro b mb
      obtain ⟨w, _, ew⟩ := List.mem_filterMap.mp mb
      cases ew
      decide
    rw [eany]
    walk_at "rr"
    exact q H6 (((s03.trans s4).trans s5).trans s6)
/-! ### _law_emptied -/
abbrev s__law_emptied : Stmt := top 47
theorem sc__law_emptied : FnScope ["picture", "pile", "pegs", "goings", "boxes", "k"] ["picture"] (defScope s__law_emptied) := ⟨rfl, rfl, rfl, by decide +kernel, rfl, by decide +kernel, by decide +kernel⟩
def sp__law_emptied (_ : PySem.W.Frag) : Sp := fun vs H Q _ => ∃ (v : V) (p : Pic) (L : List Addr), vs = [v] ∧ PicN H v p L ∧ p.a.length ≤ 20000 ∧ p.c.length ≤ 1000 ∧ (∀ g ∈ p.c, g.c.length ≤ 20000) ∧ ∀ H', Buts L H H' → Live L H' → Q .non H'
theorem ok__law_emptied {fa : Addr} {fd : FuncData} (F : Fun K "_law_emptied" "_law_emptied" s__law_emptied fa fd) (TX : Tx mg) :
    FnOk P w K mg base CX0 1 fa fd ["picture"] (sp__law_emptied K) := by
  refine F.ok sc__law_emptied (fun vs H Q E h => ?_) (fun cdv A outer s H vs Q E hr h => ?_)
  · obtain ⟨v, p, L, rfl, pn, la, lc, lg, q⟩ := h
    rfl
  · obtain ⟨v, p, L, rfl, pn, la, lc, lg, q⟩ := h
    have hu := hu_of hr
    have hu64 := hr.units
    have hu65 := hu65_of hr
    obtain ⟨T, A, B, G, X, ts, rs, rfl, rfl, k⟩ := pn
    have eT := k.top
    have nd := k.nd
    have lrs := k.rows.len
    obtain ⟨L, eL⟩ : ∃ z, z = A :: B :: G :: X :: rs := ⟨_, rfl⟩
    have mA : A ∈ L := by rw [eL]; simp
    have mB : B ∈ L := by rw [eL]; simp
    have mG : G ∈ L := by rw [eL]; simp
    have mX : X ∈ L := by rw [eL]; simp
    have mr : ∀ r ∈ rs, r ∈ L := fun r m => by rw [eL]; simp [m]
    have lL : Live L H := by
      rw [eL]
      exact k.body.lv
    rw [← eL] at q
    have nd2 := nd
    simp only [List.nodup_cons, List.mem_cons, not_or] at nd2
    obtain ⟨⟨n1, n2, n3, n4⟩, ⟨n5, n6, n7⟩, ⟨n8, n9⟩, n10, n11⟩ := nd2
    obtain ⟨xa, exa, rxa⟩ := k.pile
    obtain ⟨xb, exb, _⟩ := k.pegs
    obtain ⟨xx, exx, _⟩ := k.boxes
    have putL : ∀ {H1 : Hp} {a : Addr} {xs : List V}, a ∈ L → Buts L H H1 → Live L H1 → Buts L H (upd H1 a (.lst xs)) ∧ Live L (upd H1 a (.lst xs)) := fun {H1 a xs} ma b l => ⟨fun c o e nc => by
      rw [upd_mem ma nc]
      exact b c o e nc, l.put fun _ e => by cases e⟩
    refine ⟨_, (pss_cons (ps_asg (pv 0) (pg_tup rfl (pgs_cons (pg_name (i := 1) sc__law_emptied.nd rfl (Or.inl rfl)) (pgs_cons (pg_name (i := 2) sc__law_emptied.nd rfl (Or.inl rfl)) (pgs_cons (pg_name (i := 3) sc__law_emptied.nd rfl (Or.inl rfl)) (pgs_cons (pg_name (i := 4) sc__law_emptied.nd rfl (Or.inl rfl)) pgs_nil))))))
  (pss_cons (ps_for PassesOwn.never rfl (pi_range1 (by rfl) TX.range (pa_cons (pe_callB call_len (by rfl) TX.n_len (by decide +kernel) (pa_cons (pv 3) pa_nil)) pa_nil)) (pg_name (i := 5) sc__law_emptied.nd rfl (Or.inl rfl))
  (pss_one (ps_expr (pe_bm PySem.F.plainAttrs_list PySem.F.slot_list_append PySem.F.type_list_append mt_append (pe_ix ix_tup (pe_ix ix_list (pv 3) (pv 5) (fun _ _ => rfl)) pe_int (fun _ _ => rfl)) (pa_cons (pe_tup (pa_cons pe_str (pa_cons pe_int pa_nil))) pa_nil)))))
  (pss_cons (ps_expr (pe_bm PySem.F.plainAttrs_list PySem.F.slot_list_append PySem.F.type_list_append mt_append (pv 1) (pa_cons (pe_tup (pa_cons pe_str (pa_cons pe_int pa_nil))) pa_nil)))
  (pss_cons (ps_expr (pe_bm0 PySem.F.plainAttrs_list PySem.F.slot_list_clear PySem.F.type_list_clear mt_clear (pv 2)))
  (pss_cons (ps_expr (pe_bm0 PySem.F.plainAttrs_list PySem.F.slot_list_clear PySem.F.type_list_clear mt_clear (pv 3)))
  (pss_one (ps_expr (pe_bm0 PySem.F.plainAttrs_list PySem.F.slot_list_clear PySem.F.type_list_clear mt_clear (pv 4))))))))), ?_⟩
    refine r_begin (show L2.start _ _ = [some _, none, none, none, none, none] from rfl) ?_
    try dsimp only [cxOf]
    walk_at "rr"
    refine r_lenl k.goings ?_
    walk_at "rr"
    refine ⟨_, rfl, by rw [List.length_map]; omega, by rw [List.length_map]; omega, ?_⟩
    rw [List.length_map, lrs.1, Int.toNat_natCast]
    refine L_range (fun i σ H1 => ∃ u5, σ = [some (.ref T), some (.ref A), some (.ref B), some (.ref G), some (.ref X), u5] ∧ Buts L H H1 ∧ Live L H1 ∧ H1 A = some (.lst xa) ∧ H1 B = some (.lst xb) ∧ H1 G = some (.lst (ts.map V.ref)) ∧ H1 X = some (.lst xx) ∧ ∀ (j : Nat) (r : Addr) (g : Going), i ≤ j → rs[j]? = some r → p.c[j]? = some g → ∃ xs, H1 r = some (.lst xs) ∧ xs.length = g.c.length) ⟨_, rfl, Buts.refl, lL, exa, exb, k.goings, exx, fun j r g _ er eg => ?_⟩ ?_ ?_
    · obtain ⟨t, g2, _, eg2, kg⟩ := k.rows.getR er
      rw [eg] at eg2
      cases eg2
      obtain ⟨xs, e, r⟩ := kg.row
      exact ⟨xs, e, r.len⟩
    · rintro i σ H1 hi ⟨u5, rfl, b1, l1, a1, a2, a3, a4, k1⟩
      obtain ⟨ti, eti⟩ : ∃ t, ts[i]? = some t := ⟨_, get_lt (by omega)⟩
      obtain ⟨ri, gi, eri, egi, kgi⟩ := k.rows.get eti
      obtain ⟨xs, er, exl⟩ := k1 i ri gi (Nat.le_refl _) eri egi
      have := lg gi (List.mem_of_getElem? egi)
      have etu := b1 _ _ kgi.tup (lL.tup kgi.tup)
      have eiv : atI (ts.map V.ref) (0 + (i : Int)) = some (.ref ti) := atI_get (by rw [List.getElem?_map, eti]; rfl)
      walk_at "rr"
      refine r_ixL (.inl (.inl a3)) eiv ?_
      walk_at "rr"
      refine r_tyL er ?_
      walk_at "rr"
      refine ⟨Nat.le_of_ble_eq_true rfl, fun t6 ht6 => ?_⟩
      have s6 := same_new (o := .tup [V.str "num", V.int 8]) ht6
      generalize upd H1 t6 (.tup [V.str "num", V.int 8]) = H6 at s6 ⊢
      walk_at "rr"
      refine r_app (s6 _ _ er) (szl (by omega)) ?_
      have mri := List.mem_of_getElem? eri
      have pp := putL (xs := xs ++ [V.ref t6]) (mr ri mri) (b1.trans (Buts.of s6)) (l1.same s6)
      walk_at "rr"
      refine ⟨_, rfl, pp.1, pp.2, by rw [upd_mem mri n4]; exact s6 _ _ a1, by rw [upd_mem mri n7]; exact s6 _ _ a2, by rw [upd_mem mri n9]; exact s6 _ _ a3, by rw [upd_mem mri n10]; exact s6 _ _ a4, fun j r g hj ej eg => ?_⟩
      obtain ⟨ys, ey, ely⟩ := k1 j r g (by omega) ej eg
      have nrr : r ≠ ri := fun z => by
        have hj2 := (List.getElem?_eq_some_iff.mp ej).1
        have : j = i := (List.getElem?_inj hj2 n11).mp (show rs[j]? = rs[i]? by rw [ej, eri, z])
        omega
      exact ⟨ys, by rw [upd_ne nrr]; exact s6 _ _ ey, ely⟩
    · rintro σ H1 ⟨u5, rfl, b1, l1, a1, a2, a3, a4, k1⟩
      walk_at "rr"
      refine r_tyL a1 ?_
      walk_at "rr"
      refine ⟨Nat.le_of_ble_eq_true rfl, fun t6 ht6 => ?_⟩
      have s6 := same_new (o := .tup [V.str "num", V.int 9]) ht6
      generalize upd H1 t6 (.tup [V.str "num", V.int 9]) = H6 at s6 ⊢
      walk_at "rr"
      have lxa := rxa.len
      refine r_app (s6 _ _ a1) (szl (by omega)) ?_
      have p7 := putL (xs := xa ++ [V.ref t6]) mA (b1.trans (Buts.of s6)) (l1.same s6)
      have c2 : (upd H6 A (.lst (xa ++ [V.ref t6]))) B = some (.lst xb) := by rw [upd_ne (Ne.symm n1)]; exact s6 _ _ a2
      have c3 : (upd H6 A (.lst (xa ++ [V.ref t6]))) G = some (.lst (ts.map V.ref)) := by rw [upd_ne (Ne.symm n2)]; exact s6 _ _ a3
      have c4 : (upd H6 A (.lst (xa ++ [V.ref t6]))) X = some (.lst xx) := by rw [upd_ne (Ne.symm n3)]; exact s6 _ _ a4
      generalize upd H6 A (.lst (xa ++ [V.ref t6])) = H7 at p7 c2 c3 c4 ⊢
      walk_at "rr"
      refine r_tyL c2 ?_
      walk_at "rr"
      refine ⟨_, _, rfl, rfl, c2, ?_⟩
      have p8 := putL (xs := []) mB p7.1 p7.2
      have d3 : (upd H7 B (.lst [])) G = some (.lst (ts.map V.ref)) := by rw [upd_ne (Ne.symm n5)]; exact c3
      have d4 : (upd H7 B (.lst [])) X = some (.lst xx) := by rw [upd_ne (Ne.symm n6)]; exact c4
      generalize upd H7 B (.lst []) = H8 at p8 d3 d4 ⊢
      walk_at "rr"
      refine r_tyL d3 ?_
      walk_at "rr"
      refine ⟨_, _, rfl, rfl, d3, ?_⟩
      have p9 := putL (xs := []) mG p8.1 p8.2
      have e4 : (upd H8 G (.lst [])) X = some (.lst xx) := by rw [upd_ne (Ne.symm n8)]; exact d4
      generalize upd H8 G (.lst []) = H9 at p9 e4 ⊢
      walk_at "rr"
      refine r_tyL e4 ?_
      walk_at "rr"
      refine ⟨_, _, rfl, rfl, e4, ?_⟩
      have p10 := putL (xs := []) mX p9.1 p9.2
      walk_at "rr"
      exact q _ p10.1 p10.2
/-! ### law -/
abbrev s_law : Stmt := top 48
theorem sc_law : FnScope ["script", "well", "picture", "far", "pile", "pegs", "goings", "boxes", "due", "handed", "found", "again", "g", "place", "row", "b", "worth"] ["script"] (defScope s_law) := ⟨rfl, rfl, rfl, by decide +kernel, rfl, by decide +kernel, by decide +kernel⟩
def sp_law (K : PySem.W.Frag) : Sp := fun vs H Q _ => ∃ (a : Addr) (ns : List Int), vs = [.ref a] ∧ SqL K H a (ns.map V.int) ∧ ns.length ≤ 63 ∧ (∀ z ∈ ns, PySem.Builtin.Int.intBits z ≤ 1048576) ∧ ∀ H', Q (.bl true) H'
theorem ok_law {fa : Addr} {fd : FuncData} (F : Fun K "law" "law" s_law fa fd) (TX : Tx mg)
    (C__law_apart : Cal P w K mg base CX0 1 "_law_apart" ["found"] (sp__law_apart K))
    (C__law_cell_at : Cal P w K mg base CX0 1 "_law_cell_at" ["script", "k"] (sp__law_cell_at K))
    (C__law_copy : Cal P w K mg base CX0 1 "_law_copy" ["picture"] (sp__law_copy K))
    (C__law_emptied : Cal P w K mg base CX0 1 "_law_emptied" ["picture"] (sp__law_emptied K))
    (C__law_far : Cal P w K mg base CX0 3 "_law_far" ["picture"] (sp__law_far K))
    (C__law_longer : Cal P w K mg base CX0 3 "_law_longer" ["picture", "well"] (sp__law_longer K))
    (C__law_no_truths : Cal P w K mg base CX0 1 "_law_no_truths" ["picture"] (sp__law_no_truths K))
    (C__law_some_picture : Cal P w K mg base CX0 6 "_law_some_picture" ["well", "cells", "most"] (sp__law_some_picture K))
    (C__law_twin : Cal P w K mg base CX0 3 "_law_twin" ["picture", "well"] (sp__law_twin K))
    (C__law_well : Cal P w K mg base CX0 2 "_law_well" ["cell", "k"] (sp__law_well K))
    (C_is_picture : Cal P w K mg base CX0 5 "is_picture" ["thing"] (sp_is_picture K))
    (C_lost : Cal P w K mg base CX0 5 "lost" ["picture"] (sp_lost K))
    (C_swept : Cal P w K mg base CX0 6 "swept" ["picture"] (sp_swept K)) :
    FnOk P w K mg base CX0 7 fa fd ["script"] (sp_law K) := by
  refine F.ok sc_law (fun vs H Q E h => ?_) (fun cdv A outer s H vs Q E hr h => ?_)
  · obtain ⟨a, ns, rfl, hS, hn, hbits, q⟩ := h
    rfl
  · obtain ⟨a, ns, rfl, hS, hn, hbits, q⟩ := h
    have hu := hu_of hr
    have hu64 := hr.units
    have hu65 := hu65_of hr
    refine ⟨_, (pss_cons (ps_set (i := 1) sc_law.nd rfl (Or.inl rfl) (pe_cal C__law_well (hr.mono (by decide)) (by rfl) pass0 (pa_cons (pe_cal C__law_cell_at (hr.mono (by decide)) (by rfl) pass0 (pa_cons (pv 0) (pa_cons pe_int pa_nil))) (pa_cons pe_int pa_nil))))
  (pss_cons (ps_set (i := 2) sc_law.nd rfl (Or.inl rfl) (pe_cal C__law_twin (hr.mono (by decide)) (by rfl) pass0 (pa_cons (pe_cal C__law_longer (hr.mono (by decide)) (by rfl) pass0 (pa_cons (pe_cal C__law_some_picture (hr.mono (by decide)) (by rfl) pass0 (pa_cons (pv 1) (pa_cons (pe_slice sl_list (pv 0) (po_some pe_int) po_none) (pa_cons pe_int pa_nil)))) (pa_cons (pv 1) pa_nil))) (pa_cons (pv 1) pa_nil))))
  (pss_cons (ps_set (i := 3) sc_law.nd rfl (Or.inr rfl) (pe_cal C__law_far (hr.mono (by decide)) (by rfl) pass0 (pa_cons (pv 2) pa_nil)))
  (pss_cons (ps_asg (pe_cal C__law_copy (hr.mono (by decide)) (by rfl) pass0 (pa_cons (pv 2) pa_nil)) (pg_tup rfl (pgs_cons (pg_name (i := 4) sc_law.nd rfl (Or.inl rfl)) (pgs_cons (pg_name (i := 5) sc_law.nd rfl (Or.inl rfl)) (pgs_cons (pg_name (i := 6) sc_law.nd rfl (Or.inl rfl)) (pgs_cons (pg_name (i := 7) sc_law.nd rfl (Or.inl rfl)) pgs_nil))))))
  (pss_cons (ps_setLc (i := 6) (own := [("g", 12), ("place", 13), ("row", 14)]) (g := gTup K 3 (gCons (gName 12) (gCons (gName 13) (gCons (gName 14) gNil)))) rfl sc_law.nd rfl rfl (sw_true rfl rfl rfl (by decide +kernel)) (pi_list (pv 6)) (blkOk_by (own := [("g", 12), ("place", 13), ("row", 14)]) (N := ["script", "well", "picture", "far", "pile", "pegs", "goings", "boxes", "due", "handed", "found", "again", "g", "place", "row", "b", "worth"]) (sc := defScope s_law) (by decide +kernel)) (fun _ _ _ _ _ => (kPG (gTup K _ _) (pg_tup rfl (pgs_cons (pg_name (i := 12) sc_law.nd rfl (Or.inl rfl)) (pgs_cons (pg_name (i := 13) sc_law.nd rfl (Or.inl rfl)) (pgs_cons (pg_name (i := 14) sc_law.nd rfl (Or.inl rfl)) pgs_nil)))) rfl)) (fun _ _ _ _ _ => pts_one (pt_cmp (pc_din hu (pe_tup (pa_cons pe_str (pa_cons (pv 12) pa_nil))) (pv 3)))) (fun _ _ _ _ _ => (pe_tup (pa_cons (pv 12) (pa_cons (pv 13) (pa_cons (pv 14) pa_nil))))))
  (pss_cons (ps_setLc (i := 7) (own := [("b", 15), ("worth", 16)]) (g := gTup K 2 (gCons (gName 15) (gCons (gName 16) gNil))) rfl sc_law.nd rfl rfl (sw_true rfl rfl rfl (by decide +kernel)) (pi_list (pv 7)) (blkOk_by (own := [("b", 15), ("worth", 16)]) (N := ["script", "well", "picture", "far", "pile", "pegs", "goings", "boxes", "due", "handed", "found", "again", "g", "place", "row", "b", "worth"]) (sc := defScope s_law) (by decide +kernel)) (fun _ _ _ _ _ => (kPG (gTup K _ _) (pg_tup rfl (pgs_cons (pg_name (i := 15) sc_law.nd rfl (Or.inl rfl)) (pgs_cons (pg_name (i := 16) sc_law.nd rfl (Or.inl rfl)) pgs_nil))) rfl)) (fun _ _ _ _ _ => pts_one (pt_cmp (pc_din hu (pe_tup (pa_cons pe_str (pa_cons (pv 15) pa_nil))) (pv 3)))) (fun _ _ _ _ _ => (pe_tup (pa_cons (pv 15) (pa_cons (pv 16) pa_nil)))))
  (pss_cons (ps_set (i := 8) sc_law.nd rfl (Or.inl rfl) (pe_tup (pa_cons (pv 4) (pa_cons (pv 5) (pa_cons (pv 6) (pa_cons (pv 7) pa_nil))))))
  (pss_cons (ps_set (i := 9) sc_law.nd rfl (Or.inl rfl) (pe_cal C__law_copy (hr.mono (by decide)) (by rfl) pass0 (pa_cons (pv 2) pa_nil)))
  (pss_cons (ps_set (i := 10) sc_law.nd rfl (Or.inl rfl) (pe_cal C_swept (hr.mono (by decide)) (by rfl) pass0 (pa_cons (pv 9) pa_nil)))
  (pss_cons (ps_if (PW.pt (pw_or (pt_cmpR (op_neD hu64) (pv 10) (pv 8) (nomark _)) (pw_or (pt_not (pt_val (pe_cal C__law_no_truths (hr.mono (by decide)) (by rfl) pass0 (pa_cons (pv 10) pa_nil)))) (pw_or1 (pt_cmpR (op_neD hu64) (pv 9) (pv 2) (nomark _)))))) (pss_one (ps_ret pe_bl)) pss_nil)
  (pss_cons (ps_set (i := 11) sc_law.nd rfl (Or.inl rfl) (pe_cal C_swept (hr.mono (by decide)) (by rfl) pass0 (pa_cons (pv 10) pa_nil)))
  (pss_cons (ps_if (PW.pt (pw_or (pt_cmpR (op_neD hu64) (pv 11) (pv 8) (nomark _)) (pw_or (pt_cmpR op_notBl (pe_cal C_is_picture (hr.mono (by decide)) (by rfl) pass0 (pa_cons (pv 10) pa_nil)) pe_bl (nomark _)) (pw_or1 (pt_cmpR (op_neD hu64) (pe_cal C_lost (hr.mono (by decide)) (by rfl) pass0 (pa_cons (pv 10) pa_nil)) (pe_lst pa_nil) (nomark _)))))) (pss_one (ps_ret pe_bl)) pss_nil)
  (pss_cons (ps_if (PW.pt (pw_or (pt_not (pt_val (pe_cal C__law_apart (hr.mono (by decide)) (by rfl) pass0 (pa_cons (pv 10) pa_nil)))) (pw_or (pt_cmpR (op_neD hu64) (pv 9) (pv 2) (nomark _)) (pw_or1 (pt_cmpR (op_neD hu64) (pv 11) (pv 8) (nomark _)))))) (pss_one (ps_ret pe_bl)) pss_nil)
  (pss_cons (ps_expr (pe_cal C__law_emptied (hr.mono (by decide)) (by rfl) pass0 (pa_cons (pv 9) pa_nil)))
  (pss_one (ps_ret (pe_cmpR (op_eqD hu64) (pv 11) (pv 8) (nomark _)))))))))))))))))), ?_⟩
    refine r_begin (show L2.start _ _ = [some _, none, none, none, none, none, none, none, none, none, none, none, none, none, none, none, none] from rfl) ?_
    try dsimp only [cxOf]
    walk_at "rr"
    refine ⟨a, ns, 0, rfl, hS, by decide, hn, fun c => ?_⟩
    walk_at "rr"
    refine ⟨c, 61, rfl, by decide, by decide, fun w0 H1 hw0 s1 W0 => ?_⟩
    have l1 : Live [w0] H1 := .one W0.lv
    walk_at "rr"
    refine ⟨a, _, rfl, s1.seq hS, fun ca hca => ?_⟩
    have s2 : Same H1 (upd H1 ca (.lst (cutV (ns.map V.int) (some 1) none))) := same_new hca
    have eca : (upd H1 ca (.lst (cutV (ns.map V.int) (some 1) none))) ca = some (.lst ((ns.drop 1).map V.int)) := by
      rw [upd_same, show cutV (ns.map V.int) (some 1) none = (ns.map V.int).drop 1 from cutL_from _ 1, List.map_drop]
    generalize upd H1 ca (.lst (cutV (ns.map V.int) (some 1) none)) = H2 at s2 eca ⊢
    have nwc : ca ≠ w0 := fun e => by
      obtain ⟨_, _, _, e1, _⟩ := W0
      rw [← e, hca] at e1
      cases e1
    have l2 := l1.same s2
    walk_at "rr"
    refine ⟨w0, ca, ns.drop 1, 30, _, [w0], rfl, l2, by simp, W0.same s2, nwc, eca, by rw [List.length_drop]; omega, by decide, by decide, by decide, fun pr p0 H3 f3 b3 W3 h3 gp0 la0 ls0 => ?_⟩
    walk_at "rr"
    refine ⟨w0, _, p0, _, [w0], rfl, f3.live, by simp, W3, h3, gp0, la0, ls0, by decide, fun pr1 p1 H4 f4 b4 W4 h4 gp1 => ?_⟩
    walk_at "rr"
    refine ⟨w0, _, p1, _, [w0], rfl, f4.live, by simp, W4, h4, gp1, by decide, fun pv p H5 f5 b5 W5 h5 ok la lb lc ld ls => ?_⟩
    have ndt := things_nd ok
    have names : ∀ {q : Pic}, arePegs q.b = true → ∀ r ∈ q.b, r.1.length ≤ 1000 := fun h r mr => by
      unfold arePegs at h
      rw [Bool.and_eq_true, List.all_eq_true] at h
      have := h.1 r mr
      rw [Bool.and_eq_true] at this
      have h8 := (isName_iff.mp this.1).2.1
      have e : (tl r.1).length = r.1.length := rfl
      omega
    walk_at "rr"
    refine ⟨[w0], _, p, rfl, f5.live, h5, ok, by omega, lc, ld, fun f fl H6 s6 hf lv6 df6 ndl kl => ?_⟩
    have f6 : Fr [w0] H5 [f, w0] H6 := ⟨(del_more hf).trans (del_same s6), lv6⟩
    have h6 := f6.at_ h5
    clear f3 f4 f5 h3 h4 h5 W0 W3 W4
    walk_at "rr"
    refine ⟨[f, w0], _, p, rfl, lv6, h6, by omega, by omega, by omega, by omega, fun c1 L1 H7 s7 hc1 nL1 pn1 => ?_⟩
    have f7 := Fr.of lv6 s7
    have h7 := pn1.at_ f7.live (apart_of lv6 nL1)
    have df7 := df6.fr f7 fun o e => s7 _ _ e
    have p7 := f7.at_ h6
    have lv7 := f7.live
    walk_at "rr"
    refine r_t4 h7 fun x y z u hx hy hz hu2 => ?_
    walk_at "rr"
    refine CM (fun r : Going => if (("go", r.a) : Wo) ∈ lostP p then none else some r) lv7 hz ?_ ?_
    · rintro D i x1 b zs H8 eb k hb
      have mb : (("go", b.a) : Wo) ∈ thingsP p := mem_things_go.mpr (List.mem_map_of_mem (f := fun g : Going => g.a) (List.mem_of_getElem? eb))
      have hi := (List.getElem?_eq_some_iff.mp eb).1
      walk_at "rr"
      refine r_t3 hb fun n w r2 hn hw hr2 => ?_
      walk_at "rr"
      refine r_tupA2 (x := .str "go") (ab := (("go", b.a) : Wo)) k.lv (at_str ok_go) hn fun t9 H9 ht9 s9 h9 => ?_
      have g9 := Fr.of k.lv s9
      walk_at "rr"
      refine r_dinA (df7.fr (.of lv7 (Same.trans k.ex s9)) fun o e => s9 _ _ (k.ex _ _ e)).rd (at_sub h9) ?_
      walk_at "rr"
      refine r_d (fun hin => ?_) (fun hin => ?_)
      · have c : (("go", b.a) : Wo) ∉ lostP p := fun m => (mem_lostP.mp m).2 ((kl _).mp hin)
        walk_at "rr"
        refine r_tupA3 (ab := b) g9.live (g9.at_ hn) (g9.at_ hw) (g9.at_ hr2) fun t10 H10 ht10 s10 h10 => ?_
        exact k.mput eb (if_neg c) (s9.trans s10) h10 (by omega)
      · have c : (("go", b.a) : Wo) ∈ lostP p := mem_lostP.mpr ⟨mb, fun r => hin ((kl _).mpr r)⟩
        exact k.mskip eb (if_pos c) s9
    rintro D8 H8 hD8 s8 h8
    have f8 := Fr.of lv7 s8
    walk_at "rr"
    refine CM (fun r : Int × Wo => if (("box", r.1) : Wo) ∈ lostP p then none else some r) f8.live (f8.at_ hu2) ?_ ?_
    · rintro D i x1 b zs H9 eb k hb
      have mb : (("box", b.1) : Wo) ∈ thingsP p := mem_things_box.mpr (List.mem_map_of_mem (f := Prod.fst) (List.mem_of_getElem? eb))
      have hi := (List.getElem?_eq_some_iff.mp eb).1
      walk_at "rr"
      refine r_t2 hb fun n w hn hw => ?_
      walk_at "rr"
      refine r_tupA2 (x := .str "box") (ab := (("box", b.1) : Wo)) k.lv (at_str ok_box) hn fun t10 H10 ht10 s10 h10 => ?_
      have g10 := Fr.of k.lv s10
      have s710 := s8.trans (Same.trans k.ex s10)
      walk_at "rr"
      refine r_dinA (df7.fr (.of lv7 s710) fun o e => s710 _ _ e).rd (at_sub h10) ?_
      walk_at "rr"
      refine r_d (fun hin => ?_) (fun hin => ?_)
      · have c : (("box", b.1) : Wo) ∉ lostP p := fun m => (mem_lostP.mp m).2 ((kl _).mp hin)
        walk_at "rr"
        refine r_tupA2 (ab := b) g10.live (g10.at_ hn) (g10.at_ hw) fun t11 H11 ht11 s11 h11 => ?_
        exact k.mput eb (if_neg c) (s10.trans s11) h11 (by omega)
      · have c : (("box", b.1) : Wo) ∈ lostP p := mem_lostP.mpr ⟨mb, fun r => hin ((kl _).mpr r)⟩
        exact k.mskip eb (if_pos c) s10
    rintro D9 H9 hD9 s9 h9
    have f9 := f8.trans (.of f8.live s9)
    walk_at "rr"
    refine r_tupA4 (ab := sweptP p (lostP p)) f9.live (f9.at_ hx) (f9.at_ hy) ((Fr.of f8.live s9).at_ h8) h9 fun dv H10 hdv s10 h10 => ?_
    have s710 := (s8.trans s9).trans s10
    have p10 := (Fr.of lv7 s710).at_ p7
    have lv10 := lv7.same s710
    clear f6 f7 f8 f9 h6 h7 h8 h9 df6 df7 p7 hx hy hz hu2 pn1
    have ok2 := swept_pic ok
    have e2 := swept_lost ok
    have e3 := swept_again ok
    have lens := swept_lens (p := p) (S := lostP p)
    have sl := standing_len (p := p)
    have sl2 := standing_len (p := sweptP p (lostP p))
    have a2 : (sweptP p (lostP p)).a = p.a := rfl
    have b2 : (sweptP p (lostP p)).b = p.b := rfl
    obtain ⟨p2, ep2⟩ : ∃ z, z = sweptP p (lostP p) := ⟨_, rfl⟩
    rw [← ep2] at h10 ok2 e2 e3 lens sl2 a2 b2
    have ls2 : (standingP p2).length ≤ 13000 := by
      rw [sl2, a2, b2]
      omega
    have cbd : ∀ {z : Pic} {m : Nat}, ((z.c.map fun g => g.c).flatten).length ≤ m → ∀ g ∈ z.c, g.c.length ≤ m := fun {z m} h g mg => Nat.le_trans (len_flat_mem (fun g : Going => g.c) mg) h
    walk_at "rr"
    refine ⟨[f, w0], _, p, rfl, lv10, p10, by omega, by omega, by omega, by omega, fun hv L2 H11 s11 hhv nL2 pn2 => ?_⟩
    have f11 := Fr.of lv10 s11
    have d2 := apart_of lv10 nL2
    walk_at "rr"
    refine ⟨[f, w0], _, p, rfl, f11.live, pn2.at_ f11.live d2, ok, by omega, lc, ld, fun fv L3 H12 s12 hfv nL3 pn3 => ?_⟩
    rw [← ep2] at pn3
    have d3 := apart_of f11.live nL3
    have f12 := Fr.of f11.live s12
    have s1012 := s11.trans s12
    walk_at "rr"
    have hf12 := pn3.at_ f12.live d3
    refine r_neA (at_sub hf12) (at_sub ((Fr.of lv10 s1012).at_ h10)) ?_
    rw [decide_eq_true rfl]
    walk_at "rr"
    refine ⟨[f, w0], _, p2, rfl, f12.live, hf12, by omega, by omega, by omega, fun H13 s13 => ?_⟩
    have f13 := Fr.of f12.live s13
    have s1113 := s12.trans s13
    have s1013 := s11.trans s1113
    have pn2' := pn2.same s1113
    have pn3' := pn3.same s13
    walk_at "rr"
    refine r_neA (at_sub (pn2'.at_ f13.live d2)) (at_sub ((Fr.of lv10 s1013).at_ p10)) ?_
    rw [decide_eq_true rfl]
    walk_at "rr"
    refine ⟨[f, w0], _, p2, rfl, f13.live, pn3'.at_ f13.live d3, ok2, by omega, by omega, by omega, fun av L4 H14 s14 hav nL4 pn4 => ?_⟩
    rw [e3] at pn4
    have d4 := apart_of f13.live nL4
    have f14 := Fr.of f13.live s14
    have s1014 := s1013.trans s14
    have s1114 := s1113.trans s14
    have pn3'' := pn3'.same s14
    walk_at "rr"
    refine r_neA (at_sub (pn4.at_ f14.live d4)) (at_sub ((Fr.of lv10 s1014).at_ h10)) ?_
    rw [decide_eq_true rfl]
    walk_at "rr"
    refine ⟨[f, w0], _, p2, rfl, f14.live, pn3''.at_ f14.live d3, by omega, by omega, by omega, names (isPic_parts ok2).2.1, fun H15 s15 => ?_⟩
    rw [ok2]
    have f15 := Fr.of f14.live s15
    have pn4' := pn4.same s15
    have pn3a := pn3''.same s15
    walk_at "rr"
    refine ⟨[f, w0], _, p2, rfl, f15.live, pn3a.at_ f15.live d3, ok2, by omega, by omega, by omega, fun lr H16 s16 hlr h16 => ?_⟩
    rw [e2] at h16
    have f16 := Fr.of f15.live s16
    walk_at "rr"
    refine r_lstA (as := ([] : List Wo)) f16.live .nil (by decide) fun e17 H17 he17 s17 h17 => ?_
    have s1517 := s16.trans s17
    have f17 := Fr.of f15.live s1517
    walk_at "rr"
    refine r_neA (at_sub ((Fr.of f16.live s17).at_ h16)) (at_sub h17) ?_
    rw [decide_eq_true rfl]
    have pn4b := pn4'.same s1517
    have pn3b := pn3a.same s1517
    have s1117 := (s1114.trans s15).trans s1517
    have s1317 := (s14.trans s15).trans s1517
    walk_at "rr"
    refine ⟨_, p2, L3, rfl, pn3b, by omega, by omega, by omega, by omega, cbd (by omega), fun H18 b18 lv18 => ?_⟩
    have s1118 : Same H11 H18 := Buts.back s1117 nL3 b18
    have s1018 := s11.trans s1118
    have d43 : ∀ a ∈ L4, a ∉ L3 := apart_of pn3'.lv nL4
    have pn4c := pn4b.buts pn3b.lv d43 b18
    have pn2c := pn2.same s1118
    have f18 := Fr.of lv10 s1018
    walk_at "rr"
    refine r_neA (at_sub (pn2c.at_ f18.live d2)) (at_sub (f18.at_ p10)) ?_
    rw [decide_eq_true rfl]
    walk_at "rr"
    refine r_neA (at_sub (pn4c.at_ f18.live d4)) (at_sub (f18.at_ h10)) ?_
    rw [decide_eq_true rfl]
    walk_at "rr"
    refine ⟨_, p, L2, rfl, pn2c, by omega, by omega, cbd (by omega), fun H19 b19 lv19 => ?_⟩
    have s1019 : Same H10 H19 := Buts.back s1018 nL2 b19
    have d42 : ∀ a ∈ L4, a ∉ L2 := apart_of pn2'.lv nL4
    have pn4d := pn4c.buts pn2c.lv d42 b19
    have f19 := Fr.of lv10 s1019
    walk_at "rr"
    refine r_eqA (at_sub (pn4d.at_ f19.live d4)) (at_sub (f19.at_ h10)) ?_
    rw [decide_eq_true rfl]
    exact q H19
end
theorem all_mk {l : PySem.W.OpenLaw} {w : World} {K : PySem.W.Frag} {h : Heap} {mg : Str → Option Value} {fa : Addr} {f1 f2 f3 f4 f5 f6 f7 f8 f9 f10 f11 f12 f13 f14 f15 f16 f17 f18 f19 f20 f21 f22 f23 f24 f25 f26 f27 f28 f29 f30 f31 f32 f33 f34 f35 f36 f37 f38 f39 f40 f41 f42 : Addr} (X : K.In h) (G : h.Ns mainGlobals mg) (hfa : mg "law" = some (.ref fa))
    {od1 an1 od2 an2 od3 an3 od4 an4 od5 an5 od6 an6 od7 an7 od8 an8 od9 an9 od10 an10 od11 an11 od12 an12 od13 an13 od14 an14 od15 an15 od16 an16 od17 an17 od18 an18 od19 an19 od20 an20 od21 an21 od22 an22 od23 an23 od24 an24 od25 an25 od26 an26 od27 an27 od28 an28 od29 an29 od30 an30 od31 an31 od32 an32 od33 an33 od34 an34 od35 an35 od36 an36 od37 an37 od38 an38 od39 an39 od40 an40 od41 an41 od42 an42 : Option Addr} {sl1 sl2 sl3 sl4 sl5 sl6 sl7 sl8 sl9 sl10 sl11 sl12 sl13 sl14 sl15 sl16 sl17 sl18 sl19 sl20 sl21 sl22 sl23 sl24 sl25 sl26 sl27 sl28 sl29 sl30 sl31 sl32 sl33 sl34 sl35 sl36 sl37 sl38 sl39 sl40 sl41 sl42 : Array (Option Value)} {oc1 kV1 dc1 pm1 cd1 ct1 oc2 kV2 dc2 pm2 cd2 ct2 oc3 kV3 dc3 pm3 cd3 ct3 oc4 kV4 dc4 pm4 cd4 ct4 oc5 kV5 dc5 pm5 cd5 ct5 oc6 kV6 dc6 pm6 cd6 ct6 oc7 kV7 dc7 pm7 cd7 ct7 oc8 kV8 dc8 pm8 cd8 ct8 oc9 kV9 dc9 pm9 cd9 ct9 oc10 kV10 dc10 pm10 cd10 ct10 oc11 kV11 dc11 pm11 cd11 ct11 oc12 kV12 dc12 pm12 cd12 ct12 oc13 kV13 dc13 pm13 cd13 ct13 oc14 kV14 dc14 pm14 cd14 ct14 oc15 kV15 dc15 pm15 cd15 ct15 oc16 kV16 dc16 pm16 cd16 ct16 oc17 kV17 dc17 pm17 cd17 ct17 oc18 kV18 dc18 pm18 cd18 ct18 oc19 kV19 dc19 pm19 cd19 ct19 oc20 kV20 dc20 pm20 cd20 ct20 oc21 kV21 dc21 pm21 cd21 ct21 oc22 kV22 dc22 pm22 cd22 ct22 oc23 kV23 dc23 pm23 cd23 ct23 oc24 kV24 dc24 pm24 cd24 ct24 oc25 kV25 dc25 pm25 cd25 ct25 oc26 kV26 dc26 pm26 cd26 ct26 oc27 kV27 dc27 pm27 cd27 ct27 oc28 kV28 dc28 pm28 cd28 ct28 oc29 kV29 dc29 pm29 cd29 ct29 oc30 kV30 dc30 pm30 cd30 ct30 oc31 kV31 dc31 pm31 cd31 ct31 oc32 kV32 dc32 pm32 cd32 ct32 oc33 kV33 dc33 pm33 cd33 ct33 oc34 kV34 dc34 pm34 cd34 ct34 oc35 kV35 dc35 pm35 cd35 ct35 oc36 kV36 dc36 pm36 cd36 ct36 oc37 kV37 dc37 pm37 cd37 ct37 oc38 kV38 dc38 pm38 cd38 ct38 oc39 kV39 dc39 pm39 cd39 ct39 oc40 kV40 dc40 pm40 cd40 ct40 oc41 kV41 dc41 pm41 cd41 ct41 oc42 kV42 dc42 pm42 cd42 ct42 : Value}
    (a1 : PySem.W.nsIn K mainGlobals "is_whole" = some (some (.ref f1))) (l1 : K.lookup f1 = some ⟨oc1, od1, .func (PySem.W.fnOf "is_whole" "is_whole" (defArgs s_is_whole) (defBody s_is_whole) (defScope s_is_whole) .none kV1 dc1 pm1 an1 cd1 ct1), sl1⟩) (c1 : PySem.W.codeIn K cd1 "is_whole" = true) (k1 : PySem.W.keepIn K (.ref f1) = true)
    (a2 : PySem.W.nsIn K mainGlobals "is_worth" = some (some (.ref f2))) (l2 : K.lookup f2 = some ⟨oc2, od2, .func (PySem.W.fnOf "is_worth" "is_worth" (defArgs s_is_worth) (defBody s_is_worth) (defScope s_is_worth) .none kV2 dc2 pm2 an2 cd2 ct2), sl2⟩) (c2 : PySem.W.codeIn K cd2 "is_worth" = true) (k2 : PySem.W.keepIn K (.ref f2) = true)
    (a3 : PySem.W.nsIn K mainGlobals "is_thing" = some (some (.ref f3))) (l3 : K.lookup f3 = some ⟨oc3, od3, .func (PySem.W.fnOf "is_thing" "is_thing" (defArgs s_is_thing) (defBody s_is_thing) (defScope s_is_thing) .none kV3 dc3 pm3 an3 cd3 ct3), sl3⟩) (c3 : PySem.W.codeIn K cd3 "is_thing" = true) (k3 : PySem.W.keepIn K (.ref f3) = true)
    (a4 : PySem.W.nsIn K mainGlobals "things_of" = some (some (.ref f4))) (l4 : K.lookup f4 = some ⟨oc4, od4, .func (PySem.W.fnOf "things_of" "things_of" (defArgs s_things_of) (defBody s_things_of) (defScope s_things_of) .none kV4 dc4 pm4 an4 cd4 ct4), sl4⟩) (c4 : PySem.W.codeIn K cd4 "things_of" = true) (k4 : PySem.W.keepIn K (.ref f4) = true)
    (a5 : PySem.W.nsIn K mainGlobals "is_name" = some (some (.ref f5))) (l5 : K.lookup f5 = some ⟨oc5, od5, .func (PySem.W.fnOf "is_name" "is_name" (defArgs s_is_name) (defBody s_is_name) (defScope s_is_name) .none kV5 dc5 pm5 an5 cd5 ct5), sl5⟩) (c5 : PySem.W.codeIn K cd5 "is_name" = true) (k5 : PySem.W.keepIn K (.ref f5) = true)
    (a6 : PySem.W.nsIn K mainGlobals "is_place" = some (some (.ref f6))) (l6 : K.lookup f6 = some ⟨oc6, od6, .func (PySem.W.fnOf "is_place" "is_place" (defArgs s_is_place) (defBody s_is_place) (defScope s_is_place) .none kV6 dc6 pm6 an6 cd6 ct6), sl6⟩) (c6 : PySem.W.codeIn K cd6 "is_place" = true) (k6 : PySem.W.keepIn K (.ref f6) = true)
    (a7 : PySem.W.nsIn K mainGlobals "is_pile" = some (some (.ref f7))) (l7 : K.lookup f7 = some ⟨oc7, od7, .func (PySem.W.fnOf "is_pile" "is_pile" (defArgs s_is_pile) (defBody s_is_pile) (defScope s_is_pile) .none kV7 dc7 pm7 an7 cd7 ct7), sl7⟩) (c7 : PySem.W.codeIn K cd7 "is_pile" = true) (k7 : PySem.W.keepIn K (.ref f7) = true)
    (a8 : PySem.W.nsIn K mainGlobals "is_row" = some (some (.ref f8))) (l8 : K.lookup f8 = some ⟨oc8, od8, .func (PySem.W.fnOf "is_row" "is_row" (defArgs s_is_row) (defBody s_is_row) (defScope s_is_row) .none kV8 dc8 pm8 an8 cd8 ct8), sl8⟩) (c8 : PySem.W.codeIn K cd8 "is_row" = true) (k8 : PySem.W.keepIn K (.ref f8) = true)
    (a9 : PySem.W.nsIn K mainGlobals "rise" = some (some (.ref f9))) (l9 : K.lookup f9 = some ⟨oc9, od9, .func (PySem.W.fnOf "rise" "rise" (defArgs s_rise) (defBody s_rise) (defScope s_rise) .none kV9 dc9 pm9 an9 cd9 ct9), sl9⟩) (c9 : PySem.W.codeIn K cd9 "rise" = true) (k9 : PySem.W.keepIn K (.ref f9) = true)
    (a10 : PySem.W.nsIn K mainGlobals "are_pegs" = some (some (.ref f10))) (l10 : K.lookup f10 = some ⟨oc10, od10, .func (PySem.W.fnOf "are_pegs" "are_pegs" (defArgs s_are_pegs) (defBody s_are_pegs) (defScope s_are_pegs) .none kV10 dc10 pm10 an10 cd10 ct10), sl10⟩) (c10 : PySem.W.codeIn K cd10 "are_pegs" = true) (k10 : PySem.W.keepIn K (.ref f10) = true)
    (a11 : PySem.W.nsIn K mainGlobals "are_goings" = some (some (.ref f11))) (l11 : K.lookup f11 = some ⟨oc11, od11, .func (PySem.W.fnOf "are_goings" "are_goings" (defArgs s_are_goings) (defBody s_are_goings) (defScope s_are_goings) .none kV11 dc11 pm11 an11 cd11 ct11), sl11⟩) (c11 : PySem.W.codeIn K cd11 "are_goings" = true) (k11 : PySem.W.keepIn K (.ref f11) = true)
    (a12 : PySem.W.nsIn K mainGlobals "are_boxes" = some (some (.ref f12))) (l12 : K.lookup f12 = some ⟨oc12, od12, .func (PySem.W.fnOf "are_boxes" "are_boxes" (defArgs s_are_boxes) (defBody s_are_boxes) (defScope s_are_boxes) .none kV12 dc12 pm12 an12 cd12 ct12), sl12⟩) (c12 : PySem.W.codeIn K cd12 "are_boxes" = true) (k12 : PySem.W.keepIn K (.ref f12) = true)
    (a13 : PySem.W.nsIn K mainGlobals "standing" = some (some (.ref f13))) (l13 : K.lookup f13 = some ⟨oc13, od13, .func (PySem.W.fnOf "standing" "standing" (defArgs s_standing) (defBody s_standing) (defScope s_standing) .none kV13 dc13 pm13 an13 cd13 ct13), sl13⟩) (c13 : PySem.W.codeIn K cd13 "standing" = true) (k13 : PySem.W.keepIn K (.ref f13) = true)
    (a14 : PySem.W.nsIn K mainGlobals "things" = some (some (.ref f14))) (l14 : K.lookup f14 = some ⟨oc14, od14, .func (PySem.W.fnOf "things" "things" (defArgs s_things) (defBody s_things) (defScope s_things) .none kV14 dc14 pm14 an14 cd14 ct14), sl14⟩) (c14 : PySem.W.codeIn K cd14 "things" = true) (k14 : PySem.W.keepIn K (.ref f14) = true)
    (a15 : PySem.W.nsIn K mainGlobals "is_picture" = some (some (.ref f15))) (l15 : K.lookup f15 = some ⟨oc15, od15, .func (PySem.W.fnOf "is_picture" "is_picture" (defArgs s_is_picture) (defBody s_is_picture) (defScope s_is_picture) .none kV15 dc15 pm15 an15 cd15 ct15), sl15⟩) (c15 : PySem.W.codeIn K cd15 "is_picture" = true) (k15 : PySem.W.keepIn K (.ref f15) = true)
    (a16 : PySem.W.nsIn K mainGlobals "roots" = some (some (.ref f16))) (l16 : K.lookup f16 = some ⟨oc16, od16, .func (PySem.W.fnOf "roots" "roots" (defArgs s_roots) (defBody s_roots) (defScope s_roots) .none kV16 dc16 pm16 an16 cd16 ct16), sl16⟩) (c16 : PySem.W.codeIn K cd16 "roots" = true) (k16 : PySem.W.keepIn K (.ref f16) = true)
    (a17 : PySem.W.nsIn K mainGlobals "all_held" = some (some (.ref f17))) (l17 : K.lookup f17 = some ⟨oc17, od17, .func (PySem.W.fnOf "all_held" "all_held" (defArgs s_all_held) (defBody s_all_held) (defScope s_all_held) .none kV17 dc17 pm17 an17 cd17 ct17), sl17⟩) (c17 : PySem.W.codeIn K cd17 "all_held" = true) (k17 : PySem.W.keepIn K (.ref f17) = true)
    (a18 : PySem.W.nsIn K mainGlobals "reached" = some (some (.ref f18))) (l18 : K.lookup f18 = some ⟨oc18, od18, .func (PySem.W.fnOf "reached" "reached" (defArgs s_reached) (defBody s_reached) (defScope s_reached) .none kV18 dc18 pm18 an18 cd18 ct18), sl18⟩) (c18 : PySem.W.codeIn K cd18 "reached" = true) (k18 : PySem.W.keepIn K (.ref f18) = true)
    (a19 : PySem.W.nsIn K mainGlobals "lost" = some (some (.ref f19))) (l19 : K.lookup f19 = some ⟨oc19, od19, .func (PySem.W.fnOf "lost" "lost" (defArgs s_lost) (defBody s_lost) (defScope s_lost) .none kV19 dc19 pm19 an19 cd19 ct19), sl19⟩) (c19 : PySem.W.codeIn K cd19 "lost" = true) (k19 : PySem.W.keepIn K (.ref f19) = true)
    (a20 : PySem.W.nsIn K mainGlobals "swept" = some (some (.ref f20))) (l20 : K.lookup f20 = some ⟨oc20, od20, .func (PySem.W.fnOf "swept" "swept" (defArgs s_swept) (defBody s_swept) (defScope s_swept) .none kV20 dc20 pm20 an20 cd20 ct20), sl20⟩) (c20 : PySem.W.codeIn K cd20 "swept" = true) (k20 : PySem.W.keepIn K (.ref f20) = true)
    (a21 : PySem.W.nsIn K mainGlobals "_law_cell_at" = some (some (.ref f21))) (l21 : K.lookup f21 = some ⟨oc21, od21, .func (PySem.W.fnOf "_law_cell_at" "_law_cell_at" (defArgs s__law_cell_at) (defBody s__law_cell_at) (defScope s__law_cell_at) .none kV21 dc21 pm21 an21 cd21 ct21), sl21⟩) (c21 : PySem.W.codeIn K cd21 "_law_cell_at" = true) (k21 : PySem.W.keepIn K (.ref f21) = true)
    (a22 : PySem.W.nsIn K mainGlobals "_law_stir" = some (some (.ref f22))) (l22 : K.lookup f22 = some ⟨oc22, od22, .func (PySem.W.fnOf "_law_stir" "_law_stir" (defArgs s__law_stir) (defBody s__law_stir) (defScope s__law_stir) .none kV22 dc22 pm22 an22 cd22 ct22), sl22⟩) (c22 : PySem.W.codeIn K cd22 "_law_stir" = true) (k22 : PySem.W.keepIn K (.ref f22) = true)
    (a23 : PySem.W.nsIn K mainGlobals "_law_well" = some (some (.ref f23))) (l23 : K.lookup f23 = some ⟨oc23, od23, .func (PySem.W.fnOf "_law_well" "_law_well" (defArgs s__law_well) (defBody s__law_well) (defScope s__law_well) .none kV23 dc23 pm23 an23 cd23 ct23), sl23⟩) (c23 : PySem.W.codeIn K cd23 "_law_well" = true) (k23 : PySem.W.keepIn K (.ref f23) = true)
    (a24 : PySem.W.nsIn K mainGlobals "_law_draw" = some (some (.ref f24))) (l24 : K.lookup f24 = some ⟨oc24, od24, .func (PySem.W.fnOf "_law_draw" "_law_draw" (defArgs s__law_draw) (defBody s__law_draw) (defScope s__law_draw) .none kV24 dc24 pm24 an24 cd24 ct24), sl24⟩) (c24 : PySem.W.codeIn K cd24 "_law_draw" = true) (k24 : PySem.W.keepIn K (.ref f24) = true)
    (a25 : PySem.W.nsIn K mainGlobals "_law_worth" = some (some (.ref f25))) (l25 : K.lookup f25 = some ⟨oc25, od25, .func (PySem.W.fnOf "_law_worth" "_law_worth" (defArgs s__law_worth) (defBody s__law_worth) (defScope s__law_worth) .none kV25 dc25 pm25 an25 cd25 ct25), sl25⟩) (c25 : PySem.W.codeIn K cd25 "_law_worth" = true) (k25 : PySem.W.keepIn K (.ref f25) = true)
    (a26 : PySem.W.nsIn K mainGlobals "_law_name" = some (some (.ref f26))) (l26 : K.lookup f26 = some ⟨oc26, od26, .func (PySem.W.fnOf "_law_name" "_law_name" (defArgs s__law_name) (defBody s__law_name) (defScope s__law_name) .none kV26 dc26 pm26 an26 cd26 ct26), sl26⟩) (c26 : PySem.W.codeIn K cd26 "_law_name" = true) (k26 : PySem.W.keepIn K (.ref f26) = true)
    (a27 : PySem.W.nsIn K mainGlobals "_law_numbered" = some (some (.ref f27))) (l27 : K.lookup f27 = some ⟨oc27, od27, .func (PySem.W.fnOf "_law_numbered" "_law_numbered" (defArgs s__law_numbered) (defBody s__law_numbered) (defScope s__law_numbered) .none kV27 dc27 pm27 an27 cd27 ct27), sl27⟩) (c27 : PySem.W.codeIn K cd27 "_law_numbered" = true) (k27 : PySem.W.keepIn K (.ref f27) = true)
    (a28 : PySem.W.nsIn K mainGlobals "_law_hold" = some (some (.ref f28))) (l28 : K.lookup f28 = some ⟨oc28, od28, .func (PySem.W.fnOf "_law_hold" "_law_hold" (defArgs s__law_hold) (defBody s__law_hold) (defScope s__law_hold) .none kV28 dc28 pm28 an28 cd28 ct28), sl28⟩) (c28 : PySem.W.codeIn K cd28 "_law_hold" = true) (k28 : PySem.W.keepIn K (.ref f28) = true)
    (a29 : PySem.W.nsIn K mainGlobals "_law_picture" = some (some (.ref f29))) (l29 : K.lookup f29 = some ⟨oc29, od29, .func (PySem.W.fnOf "_law_picture" "_law_picture" (defArgs s__law_picture) (defBody s__law_picture) (defScope s__law_picture) .none kV29 dc29 pm29 an29 cd29 ct29), sl29⟩) (c29 : PySem.W.codeIn K cd29 "_law_picture" = true) (k29 : PySem.W.keepIn K (.ref f29) = true)
    (a30 : PySem.W.nsIn K mainGlobals "_law_copy" = some (some (.ref f30))) (l30 : K.lookup f30 = some ⟨oc30, od30, .func (PySem.W.fnOf "_law_copy" "_law_copy" (defArgs s__law_copy) (defBody s__law_copy) (defScope s__law_copy) .none kV30 dc30 pm30 an30 cd30 ct30), sl30⟩) (c30 : PySem.W.codeIn K cd30 "_law_copy" = true) (k30 : PySem.W.keepIn K (.ref f30) = true)
    (a31 : PySem.W.nsIn K mainGlobals "_law_chain" = some (some (.ref f31))) (l31 : K.lookup f31 = some ⟨oc31, od31, .func (PySem.W.fnOf "_law_chain" "_law_chain" (defArgs s__law_chain) (defBody s__law_chain) (defScope s__law_chain) .none kV31 dc31 pm31 an31 cd31 ct31), sl31⟩) (c31 : PySem.W.codeIn K cd31 "_law_chain" = true) (k31 : PySem.W.keepIn K (.ref f31) = true)
    (a32 : PySem.W.nsIn K mainGlobals "_law_some_picture" = some (some (.ref f32))) (l32 : K.lookup f32 = some ⟨oc32, od32, .func (PySem.W.fnOf "_law_some_picture" "_law_some_picture" (defArgs s__law_some_picture) (defBody s__law_some_picture) (defScope s__law_some_picture) .none kV32 dc32 pm32 an32 cd32 ct32), sl32⟩) (c32 : PySem.W.codeIn K cd32 "_law_some_picture" = true) (k32 : PySem.W.keepIn K (.ref f32) = true)
    (a33 : PySem.W.nsIn K mainGlobals "_law_longer" = some (some (.ref f33))) (l33 : K.lookup f33 = some ⟨oc33, od33, .func (PySem.W.fnOf "_law_longer" "_law_longer" (defArgs s__law_longer) (defBody s__law_longer) (defScope s__law_longer) .none kV33 dc33 pm33 an33 cd33 ct33), sl33⟩) (c33 : PySem.W.codeIn K cd33 "_law_longer" = true) (k33 : PySem.W.keepIn K (.ref f33) = true)
    (a34 : PySem.W.nsIn K mainGlobals "_law_twin" = some (some (.ref f34))) (l34 : K.lookup f34 = some ⟨oc34, od34, .func (PySem.W.fnOf "_law_twin" "_law_twin" (defArgs s__law_twin) (defBody s__law_twin) (defScope s__law_twin) .none kV34 dc34 pm34 an34 cd34 ct34), sl34⟩) (c34 : PySem.W.codeIn K cd34 "_law_twin" = true) (k34 : PySem.W.keepIn K (.ref f34) = true)
    (a35 : PySem.W.nsIn K mainGlobals "_law_apart" = some (some (.ref f35))) (l35 : K.lookup f35 = some ⟨oc35, od35, .func (PySem.W.fnOf "_law_apart" "_law_apart" (defArgs s__law_apart) (defBody s__law_apart) (defScope s__law_apart) .none kV35 dc35 pm35 an35 cd35 ct35), sl35⟩) (c35 : PySem.W.codeIn K cd35 "_law_apart" = true) (k35 : PySem.W.keepIn K (.ref f35) = true)
    (a36 : PySem.W.nsIn K mainGlobals "_law_leads" = some (some (.ref f36))) (l36 : K.lookup f36 = some ⟨oc36, od36, .func (PySem.W.fnOf "_law_leads" "_law_leads" (defArgs s__law_leads) (defBody s__law_leads) (defScope s__law_leads) .none kV36 dc36 pm36 an36 cd36 ct36), sl36⟩) (c36 : PySem.W.codeIn K cd36 "_law_leads" = true) (k36 : PySem.W.keepIn K (.ref f36) = true)
    (a37 : PySem.W.nsIn K mainGlobals "_law_roots" = some (some (.ref f37))) (l37 : K.lookup f37 = some ⟨oc37, od37, .func (PySem.W.fnOf "_law_roots" "_law_roots" (defArgs s__law_roots) (defBody s__law_roots) (defScope s__law_roots) .none kV37 dc37 pm37 an37 cd37 ct37), sl37⟩) (c37 : PySem.W.codeIn K cd37 "_law_roots" = true) (k37 : PySem.W.keepIn K (.ref f37) = true)
    (a38 : PySem.W.nsIn K mainGlobals "_law_held" = some (some (.ref f38))) (l38 : K.lookup f38 = some ⟨oc38, od38, .func (PySem.W.fnOf "_law_held" "_law_held" (defArgs s__law_held) (defBody s__law_held) (defScope s__law_held) .none kV38 dc38 pm38 an38 cd38 ct38), sl38⟩) (c38 : PySem.W.codeIn K cd38 "_law_held" = true) (k38 : PySem.W.keepIn K (.ref f38) = true)
    (a39 : PySem.W.nsIn K mainGlobals "_law_far" = some (some (.ref f39))) (l39 : K.lookup f39 = some ⟨oc39, od39, .func (PySem.W.fnOf "_law_far" "_law_far" (defArgs s__law_far) (defBody s__law_far) (defScope s__law_far) .none kV39 dc39 pm39 an39 cd39 ct39), sl39⟩) (c39 : PySem.W.codeIn K cd39 "_law_far" = true) (k39 : PySem.W.keepIn K (.ref f39) = true)
    (a40 : PySem.W.nsIn K mainGlobals "_law_no_truths" = some (some (.ref f40))) (l40 : K.lookup f40 = some ⟨oc40, od40, .func (PySem.W.fnOf "_law_no_truths" "_law_no_truths" (defArgs s__law_no_truths) (defBody s__law_no_truths) (defScope s__law_no_truths) .none kV40 dc40 pm40 an40 cd40 ct40), sl40⟩) (c40 : PySem.W.codeIn K cd40 "_law_no_truths" = true) (k40 : PySem.W.keepIn K (.ref f40) = true)
    (a41 : PySem.W.nsIn K mainGlobals "_law_emptied" = some (some (.ref f41))) (l41 : K.lookup f41 = some ⟨oc41, od41, .func (PySem.W.fnOf "_law_emptied" "_law_emptied" (defArgs s__law_emptied) (defBody s__law_emptied) (defScope s__law_emptied) .none kV41 dc41 pm41 an41 cd41 ct41), sl41⟩) (c41 : PySem.W.codeIn K cd41 "_law_emptied" = true) (k41 : PySem.W.keepIn K (.ref f41) = true)
    (a42 : PySem.W.nsIn K mainGlobals "law" = some (some (.ref f42))) (l42 : K.lookup f42 = some ⟨oc42, od42, .func (PySem.W.fnOf "law" "law" (defArgs s_law) (defBody s_law) (defScope s_law) .none kV42 dc42 pm42 an42 cd42 ct42), sl42⟩) (c42 : PySem.W.codeIn K cd42 "law" = true) (k42 : PySem.W.keepIn K (.ref f42) = true)
    (z0 : PySem.W.nsIn K mainGlobals "len" = some none) (z1 : PySem.W.nsIn K mainGlobals "isinstance" = some none) (z2 : PySem.W.nsIn K mainGlobals "range" = some none) (z3 : PySem.W.nsIn K mainGlobals "max" = some none) (z4 : PySem.W.nsIn K mainGlobals "min" = some none) (z5 : PySem.W.nsIn K mainGlobals "int" = some none) (z6 : PySem.W.nsIn K mainGlobals "bool" = some none) (z7 : PySem.W.nsIn K mainGlobals "str" = some none) (z8 : PySem.W.nsIn K mainGlobals "list" = some none) (z9 : PySem.W.nsIn K mainGlobals "tuple" = some none) (z10 : PySem.W.nsIn K mainGlobals "dict" = some none) (z11 : PySem.W.nsIn K mainGlobals "sorted" = some none) (z12 : PySem.W.nsIn K mainGlobals "sum" = some none) (z13 : PySem.W.nsIn K mainGlobals "all" = some none) (z14 : PySem.W.nsIn K mainGlobals "any" = some none) (z15 : PySem.W.nsIn K mainGlobals "enumerate" = some none) (z16 : PySem.W.nsIn K mainGlobals "zip" = some none) (z17 : PySem.W.nsIn K mainGlobals "reversed" = some none) (z18 : PySem.W.nsIn K mainGlobals "ValueError" = some none)
    {dM : Addr} {esM : Array DictEntry} {nM : Nat}
    (aM : PySem.W.nsIn K mainGlobals "MARKS" = some (some (.ref dM))) (lM : K.lookup dM = some ⟨.type "dict", none, .dict esM nM, #[]⟩) (kM : PySem.W.KeysLit w.params esM.toList) (sM : (dM == sysModules) = false) (pM : pairsS esM.toList = marks.map (fun p => (some p.1, some p.2)))
    {tLt : Tok} (aLt : PySem.W.nsIn K mainGlobals "LETTERS" = some (some (.str "abcdefghijklmnopqrstuvwxyz" tLt)))
    : ∃ fd : FuncData, (∀ (s : Shared) (v : Value), BindsTo s fd ⟨[v], []⟩ [("script", v)]) ∧ ∀ base : Heap, K.In base → base.Ns mainGlobals mg → FnOk l.prog w K mg base CX0 7 fa fd ["script"] (sp_law K) := by
  have e := hfa.symm.trans (PySem.W.mg_of X G a42)
  cases e
  have F1 := fun_mk (st := s_is_whole) l1 c1 k1
  have b1 := F1.binds (ps := ["thing"]) fun _ _ _ _ _ _ us hl => match us, hl with | [_], _ => rfl
  have F2 := fun_mk (st := s_is_worth) l2 c2 k2
  have b2 := F2.binds (ps := ["thing"]) fun _ _ _ _ _ _ us hl => match us, hl with | [_], _ => rfl
  have F3 := fun_mk (st := s_is_thing) l3 c3 k3
  have b3 := F3.binds (ps := ["worth"]) fun _ _ _ _ _ _ us hl => match us, hl with | [_], _ => rfl
  have F4 := fun_mk (st := s_things_of) l4 c4 k4
  have b4 := F4.binds (ps := ["worths"]) fun _ _ _ _ _ _ us hl => match us, hl with | [_], _ => rfl
  have F5 := fun_mk (st := s_is_name) l5 c5 k5
  have b5 := F5.binds (ps := ["thing"]) fun _ _ _ _ _ _ us hl => match us, hl with | [_], _ => rfl
  have F6 := fun_mk (st := s_is_place) l6 c6 k6
  have b6 := F6.binds (ps := ["thing"]) fun _ _ _ _ _ _ us hl => match us, hl with | [_], _ => rfl
  have F7 := fun_mk (st := s_is_pile) l7 c7 k7
  have b7 := F7.binds (ps := ["thing"]) fun _ _ _ _ _ _ us hl => match us, hl with | [_], _ => rfl
  have F8 := fun_mk (st := s_is_row) l8 c8 k8
  have b8 := F8.binds (ps := ["thing", "many"]) fun _ _ _ _ _ _ us hl => match us, hl with | [_, _], _ => rfl
  have F9 := fun_mk (st := s_rise) l9 c9 k9
  have b9 := F9.binds (ps := ["firsts"]) fun _ _ _ _ _ _ us hl => match us, hl with | [_], _ => rfl
  have F10 := fun_mk (st := s_are_pegs) l10 c10 k10
  have b10 := F10.binds (ps := ["thing"]) fun _ _ _ _ _ _ us hl => match us, hl with | [_], _ => rfl
  have F11 := fun_mk (st := s_are_goings) l11 c11 k11
  have b11 := F11.binds (ps := ["thing"]) fun _ _ _ _ _ _ us hl => match us, hl with | [_], _ => rfl
  have F12 := fun_mk (st := s_are_boxes) l12 c12 k12
  have b12 := F12.binds (ps := ["thing"]) fun _ _ _ _ _ _ us hl => match us, hl with | [_], _ => rfl
  have F13 := fun_mk (st := s_standing) l13 c13 k13
  have b13 := F13.binds (ps := ["picture"]) fun _ _ _ _ _ _ us hl => match us, hl with | [_], _ => rfl
  have F14 := fun_mk (st := s_things) l14 c14 k14
  have b14 := F14.binds (ps := ["picture"]) fun _ _ _ _ _ _ us hl => match us, hl with | [_], _ => rfl
  have F15 := fun_mk (st := s_is_picture) l15 c15 k15
  have b15 := F15.binds (ps := ["thing"]) fun _ _ _ _ _ _ us hl => match us, hl with | [_], _ => rfl
  have F16 := fun_mk (st := s_roots) l16 c16 k16
  have b16 := F16.binds (ps := ["picture"]) fun _ _ _ _ _ _ us hl => match us, hl with | [_], _ => rfl
  have F17 := fun_mk (st := s_all_held) l17 c17 k17
  have b17 := F17.binds (ps := ["picture"]) fun _ _ _ _ _ _ us hl => match us, hl with | [_], _ => rfl
  have F18 := fun_mk (st := s_reached) l18 c18 k18
  have b18 := F18.binds (ps := ["picture"]) fun _ _ _ _ _ _ us hl => match us, hl with | [_], _ => rfl
  have F19 := fun_mk (st := s_lost) l19 c19 k19
  have b19 := F19.binds (ps := ["picture"]) fun _ _ _ _ _ _ us hl => match us, hl with | [_], _ => rfl
  have F20 := fun_mk (st := s_swept) l20 c20 k20
  have b20 := F20.binds (ps := ["picture"]) fun _ _ _ _ _ _ us hl => match us, hl with | [_], _ => rfl
  have F21 := fun_mk (st := s__law_cell_at) l21 c21 k21
  have b21 := F21.binds (ps := ["script", "k"]) fun _ _ _ _ _ _ us hl => match us, hl with | [_, _], _ => rfl
  have F22 := fun_mk (st := s__law_stir) l22 c22 k22
  have b22 := F22.binds (ps := ["seed", "turn"]) fun _ _ _ _ _ _ us hl => match us, hl with | [_, _], _ => rfl
  have F23 := fun_mk (st := s__law_well) l23 c23 k23
  have b23 := F23.binds (ps := ["cell", "k"]) fun _ _ _ _ _ _ us hl => match us, hl with | [_, _], _ => rfl
  have F24 := fun_mk (st := s__law_draw) l24 c24 k24
  have b24 := F24.binds (ps := ["well", "many"]) fun _ _ _ _ _ _ us hl => match us, hl with | [_, _], _ => rfl
  have F25 := fun_mk (st := s__law_worth) l25 c25 k25
  have b25 := F25.binds (ps := ["well", "some"]) fun _ _ _ _ _ _ us hl => match us, hl with | [_, _], _ => rfl
  have F26 := fun_mk (st := s__law_name) l26 c26 k26
  have b26 := F26.binds (ps := ["well", "last"]) fun _ _ _ _ _ _ us hl => match us, hl with | [_, _], _ => rfl
  have F27 := fun_mk (st := s__law_numbered) l27 c27 k27
  have b27 := F27.binds (ps := ["wells"]) fun _ _ _ _ _ _ us hl => match us, hl with | [_], _ => rfl
  have F28 := fun_mk (st := s__law_hold) l28 c28 k28
  have b28 := F28.binds (ps := ["well", "where", "thing", "pile", "pegs", "hosts"]) fun _ _ _ _ _ _ us hl => match us, hl with | [_, _, _, _, _, _], _ => rfl
  have F29 := fun_mk (st := s__law_picture) l29 c29 k29
  have b29 := F29.binds (ps := ["cells", "most"]) fun _ _ _ _ _ _ us hl => match us, hl with | [_, _], _ => rfl
  have F30 := fun_mk (st := s__law_copy) l30 c30 k30
  have b30 := F30.binds (ps := ["picture"]) fun _ _ _ _ _ _ us hl => match us, hl with | [_], _ => rfl
  have F31 := fun_mk (st := s__law_chain) l31 c31 k31
  have b31 := F31.binds (ps := ["well"]) fun _ _ _ _ _ _ us hl => match us, hl with | [_], _ => rfl
  have F32 := fun_mk (st := s__law_some_picture) l32 c32 k32
  have b32 := F32.binds (ps := ["well", "cells", "most"]) fun _ _ _ _ _ _ us hl => match us, hl with | [_, _, _], _ => rfl
  have F33 := fun_mk (st := s__law_longer) l33 c33 k33
  have b33 := F33.binds (ps := ["picture", "well"]) fun _ _ _ _ _ _ us hl => match us, hl with | [_, _], _ => rfl
  have F34 := fun_mk (st := s__law_twin) l34 c34 k34
  have b34 := F34.binds (ps := ["picture", "well"]) fun _ _ _ _ _ _ us hl => match us, hl with | [_, _], _ => rfl
  have F35 := fun_mk (st := s__law_apart) l35 c35 k35
  have b35 := F35.binds (ps := ["found"]) fun _ _ _ _ _ _ us hl => match us, hl with | [_], _ => rfl
  have F36 := fun_mk (st := s__law_leads) l36 c36 k36
  have b36 := F36.binds (ps := ["worths"]) fun _ _ _ _ _ _ us hl => match us, hl with | [_], _ => rfl
  have F37 := fun_mk (st := s__law_roots) l37 c37 k37
  have b37 := F37.binds (ps := ["picture"]) fun _ _ _ _ _ _ us hl => match us, hl with | [_], _ => rfl
  have F38 := fun_mk (st := s__law_held) l38 c38 k38
  have b38 := F38.binds (ps := ["picture"]) fun _ _ _ _ _ _ us hl => match us, hl with | [_], _ => rfl
  have F39 := fun_mk (st := s__law_far) l39 c39 k39
  have b39 := F39.binds (ps := ["picture"]) fun _ _ _ _ _ _ us hl => match us, hl with | [_], _ => rfl
  have F40 := fun_mk (st := s__law_no_truths) l40 c40 k40
  have b40 := F40.binds (ps := ["picture"]) fun _ _ _ _ _ _ us hl => match us, hl with | [_], _ => rfl
  have F41 := fun_mk (st := s__law_emptied) l41 c41 k41
  have b41 := F41.binds (ps := ["picture"]) fun _ _ _ _ _ _ us hl => match us, hl with | [_], _ => rfl
  have F42 := fun_mk (st := s_law) l42 c42 k42
  have TX : Tx mg := ⟨PySem.W.mg_none_of X G z0, PySem.W.mg_none_of X G z1, PySem.W.mg_none_of X G z2, PySem.W.mg_none_of X G z3, PySem.W.mg_none_of X G z4, PySem.W.mg_none_of X G z5, PySem.W.mg_none_of X G z6, PySem.W.mg_none_of X G z7, PySem.W.mg_none_of X G z8, PySem.W.mg_none_of X G z9, PySem.W.mg_none_of X G z10, PySem.W.mg_none_of X G z11, PySem.W.mg_none_of X G z12, PySem.W.mg_none_of X G z13, PySem.W.mg_none_of X G z14, PySem.W.mg_none_of X G z15, PySem.W.mg_none_of X G z16, PySem.W.mg_none_of X G z17, PySem.W.mg_none_of X G z18⟩
  have d_MARKS : KDict K w dM esM nM := ⟨lM, kM, sM⟩
  have g_MARKS : mg "MARKS" = some (.ref dM) := PySem.W.mg_of X G aM
  have m_MARKS := nsIn_pairs lM pM
  have g_LETTERS : mg "LETTERS" = some (.str "abcdefghijklmnopqrstuvwxyz" tLt) := PySem.W.mg_of X G aLt
  refine ⟨PySem.W.fnOf "law" "law" (defArgs s_law) (defBody s_law) (defScope s_law) .none kV42 dc42 pm42 an42 cd42 ct42, fun s v => .of_eq rfl, fun base _ _ => ?_⟩
  have C_is_whole := Cal.of (ok_is_whole (P := l.prog) (w := w) (K := K) (mg := mg) (base := base) F1 TX) b1 k1 (PySem.W.mg_of X G a1)
  have C_is_worth := Cal.of (ok_is_worth (P := l.prog) (w := w) (K := K) (mg := mg) (base := base) F2 TX C_is_whole d_MARKS g_MARKS m_MARKS) b2 k2 (PySem.W.mg_of X G a2)
  have C_is_thing := Cal.of (ok_is_thing (P := l.prog) (w := w) (K := K) (mg := mg) (base := base) F3 TX) b3 k3 (PySem.W.mg_of X G a3)
  have C_things_of := Cal.of (ok_things_of (P := l.prog) (w := w) (K := K) (mg := mg) (base := base) F4 TX C_is_thing) b4 k4 (PySem.W.mg_of X G a4)
  have C_is_name := Cal.of (ok_is_name (P := l.prog) (w := w) (K := K) (mg := mg) (base := base) F5 TX g_LETTERS) b5 k5 (PySem.W.mg_of X G a5)
  have C_is_place := Cal.of (ok_is_place (P := l.prog) (w := w) (K := K) (mg := mg) (base := base) F6 TX) b6 k6 (PySem.W.mg_of X G a6)
  have C_is_pile := Cal.of (ok_is_pile (P := l.prog) (w := w) (K := K) (mg := mg) (base := base) F7 TX C_is_worth) b7 k7 (PySem.W.mg_of X G a7)
  have C_is_row := Cal.of (ok_is_row (P := l.prog) (w := w) (K := K) (mg := mg) (base := base) F8 TX) b8 k8 (PySem.W.mg_of X G a8)
  have C_rise := Cal.of (ok_rise (P := l.prog) (w := w) (K := K) (mg := mg) (base := base) F9 TX) b9 k9 (PySem.W.mg_of X G a9)
  have C_are_pegs := Cal.of (ok_are_pegs (P := l.prog) (w := w) (K := K) (mg := mg) (base := base) F10 TX C_is_name C_is_row C_is_worth C_rise) b10 k10 (PySem.W.mg_of X G a10)
  have C_are_goings := Cal.of (ok_are_goings (P := l.prog) (w := w) (K := K) (mg := mg) (base := base) F11 TX C_is_pile C_is_place C_is_row C_rise) b11 k11 (PySem.W.mg_of X G a11)
  have C_are_boxes := Cal.of (ok_are_boxes (P := l.prog) (w := w) (K := K) (mg := mg) (base := base) F12 TX C_is_place C_is_row C_is_worth C_rise) b12 k12 (PySem.W.mg_of X G a12)
  have C_standing := Cal.of (ok_standing (P := l.prog) (w := w) (K := K) (mg := mg) (base := base) F13 TX) b13 k13 (PySem.W.mg_of X G a13)
  have C_things := Cal.of (ok_things (P := l.prog) (w := w) (K := K) (mg := mg) (base := base) F14 TX) b14 k14 (PySem.W.mg_of X G a14)
  have C_is_picture := Cal.of (ok_is_picture (P := l.prog) (w := w) (K := K) (mg := mg) (base := base) F15 TX C_are_boxes C_are_goings C_are_pegs C_is_pile C_is_row C_standing C_things C_things_of) b15 k15 (PySem.W.mg_of X G a15)
  have C_roots := Cal.of (ok_roots (P := l.prog) (w := w) (K := K) (mg := mg) (base := base) F16 TX C_things_of) b16 k16 (PySem.W.mg_of X G a16)
  have C_all_held := Cal.of (ok_all_held (P := l.prog) (w := w) (K := K) (mg := mg) (base := base) F17 TX C_things_of) b17 k17 (PySem.W.mg_of X G a17)
  have C_reached := Cal.of (ok_reached (P := l.prog) (w := w) (K := K) (mg := mg) (base := base) F18 TX C_all_held C_roots C_things) b18 k18 (PySem.W.mg_of X G a18)
  have C_lost := Cal.of (ok_lost (P := l.prog) (w := w) (K := K) (mg := mg) (base := base) F19 TX C_reached C_things) b19 k19 (PySem.W.mg_of X G a19)
  have C_swept := Cal.of (ok_swept (P := l.prog) (w := w) (K := K) (mg := mg) (base := base) F20 TX C_lost) b20 k20 (PySem.W.mg_of X G a20)
  have C__law_cell_at := Cal.of (ok__law_cell_at (P := l.prog) (w := w) (K := K) (mg := mg) (base := base) F21 TX) b21 k21 (PySem.W.mg_of X G a21)
  have C__law_stir := Cal.of (ok__law_stir (P := l.prog) (w := w) (K := K) (mg := mg) (base := base) F22 TX) b22 k22 (PySem.W.mg_of X G a22)
  have C__law_well := Cal.of (ok__law_well (P := l.prog) (w := w) (K := K) (mg := mg) (base := base) F23 TX C__law_stir) b23 k23 (PySem.W.mg_of X G a23)
  have C__law_draw := Cal.of (ok__law_draw (P := l.prog) (w := w) (K := K) (mg := mg) (base := base) F24 TX C__law_stir) b24 k24 (PySem.W.mg_of X G a24)
  have C__law_worth := Cal.of (ok__law_worth (P := l.prog) (w := w) (K := K) (mg := mg) (base := base) F25 TX C__law_draw) b25 k25 (PySem.W.mg_of X G a25)
  have C__law_name := Cal.of (ok__law_name (P := l.prog) (w := w) (K := K) (mg := mg) (base := base) F26 TX C__law_draw) b26 k26 (PySem.W.mg_of X G a26)
  have C__law_numbered := Cal.of (ok__law_numbered (P := l.prog) (w := w) (K := K) (mg := mg) (base := base) F27 TX C__law_draw) b27 k27 (PySem.W.mg_of X G a27)
  have C__law_hold := Cal.of (ok__law_hold (P := l.prog) (w := w) (K := K) (mg := mg) (base := base) F28 TX C__law_draw C__law_name) b28 k28 (PySem.W.mg_of X G a28)
  have C__law_picture := Cal.of (ok__law_picture (P := l.prog) (w := w) (K := K) (mg := mg) (base := base) F29 TX C__law_cell_at C__law_draw C__law_hold C__law_name C__law_numbered C__law_well C__law_worth) b29 k29 (PySem.W.mg_of X G a29)
  have C__law_copy := Cal.of (ok__law_copy (P := l.prog) (w := w) (K := K) (mg := mg) (base := base) F30 TX) b30 k30 (PySem.W.mg_of X G a30)
  have C__law_chain := Cal.of (ok__law_chain (P := l.prog) (w := w) (K := K) (mg := mg) (base := base) F31 TX C__law_draw) b31 k31 (PySem.W.mg_of X G a31)
  have C__law_some_picture := Cal.of (ok__law_some_picture (P := l.prog) (w := w) (K := K) (mg := mg) (base := base) F32 TX C__law_chain C__law_draw C__law_picture) b32 k32 (PySem.W.mg_of X G a32)
  have C__law_longer := Cal.of (ok__law_longer (P := l.prog) (w := w) (K := K) (mg := mg) (base := base) F33 TX C__law_draw) b33 k33 (PySem.W.mg_of X G a33)
  have C__law_twin := Cal.of (ok__law_twin (P := l.prog) (w := w) (K := K) (mg := mg) (base := base) F34 TX C__law_draw) b34 k34 (PySem.W.mg_of X G a34)
  have C__law_apart := Cal.of (ok__law_apart (P := l.prog) (w := w) (K := K) (mg := mg) (base := base) F35 TX) b35 k35 (PySem.W.mg_of X G a35)
  have C__law_leads := Cal.of (ok__law_leads (P := l.prog) (w := w) (K := K) (mg := mg) (base := base) F36 TX) b36 k36 (PySem.W.mg_of X G a36)
  have C__law_roots := Cal.of (ok__law_roots (P := l.prog) (w := w) (K := K) (mg := mg) (base := base) F37 TX C__law_leads) b37 k37 (PySem.W.mg_of X G a37)
  have C__law_held := Cal.of (ok__law_held (P := l.prog) (w := w) (K := K) (mg := mg) (base := base) F38 TX C__law_leads) b38 k38 (PySem.W.mg_of X G a38)
  have C__law_far := Cal.of (ok__law_far (P := l.prog) (w := w) (K := K) (mg := mg) (base := base) F39 TX C__law_held C__law_leads C__law_roots) b39 k39 (PySem.W.mg_of X G a39)
  have C__law_no_truths := Cal.of (ok__law_no_truths (P := l.prog) (w := w) (K := K) (mg := mg) (base := base) F40 TX) b40 k40 (PySem.W.mg_of X G a40)
  have C__law_emptied := Cal.of (ok__law_emptied (P := l.prog) (w := w) (K := K) (mg := mg) (base := base) F41 TX) b41 k41 (PySem.W.mg_of X G a41)
  exact ok_law F42 TX C__law_apart C__law_cell_at C__law_copy C__law_emptied C__law_far C__law_longer C__law_no_truths C__law_some_picture C__law_twin C__law_well C_is_picture C_lost C_swept
end Q
open PySem PySem.W PyProof.Rows
set_option maxHeartbeats 0 in
theorem PySem.Challenge.cw_manygoings_k23_swept_pictures_holds : PySem.Challenge.rw_manygoings_k23_swept_pictures.Holds := by
  w_on; o_law; k_head; (case hw => w_witness2)
  k_fill
  refine L2.walk_ofB (l := PySem.Challenge.rw_manygoings_k23_swept_pictures) (n := 63) (k := 7) (x := "script") (CX := fun _ => L2.CX0) (sp := fun w => Q.sp_law _) rfl (by decide) rfl ⟨rfl, by decide, by decide⟩ (fun w h Y => PySem.W.kIn_of Y) ?F (fun _ _ a ns hl hb _ hS => ⟨a, ns, rfl, hS, hl, hb, fun _ => rfl⟩) (fun _ _ _ _ _ h => h)
  case F =>
    intro w mg fa h KX G hmg
    refine' Q.all_mk KX G hmg ?a1 ?l1 ?c1 ?k1 ?a2 ?l2 ?c2 ?k2 ?a3 ?l3 ?c3 ?k3 ?a4 ?l4 ?c4 ?k4 ?a5 ?l5 ?c5 ?k5 ?a6 ?l6 ?c6 ?k6 ?a7 ?l7 ?c7 ?k7 ?a8 ?l8 ?c8 ?k8 ?a9 ?l9 ?c9 ?k9 ?a10 ?l10 ?c10 ?k10 ?a11 ?l11 ?c11 ?k11 ?a12 ?l12 ?c12 ?k12 ?a13 ?l13 ?c13 ?k13 ?a14 ?l14 ?c14 ?k14 ?a15 ?l15 ?c15 ?k15 ?a16 ?l16 ?c16 ?k16 ?a17 ?l17 ?c17 ?k17 ?a18 ?l18 ?c18 ?k18 ?a19 ?l19 ?c19 ?k19 ?a20 ?l20 ?c20 ?k20 ?a21 ?l21 ?c21 ?k21 ?a22 ?l22 ?c22 ?k22 ?a23 ?l23 ?c23 ?k23 ?a24 ?l24 ?c24 ?k24 ?a25 ?l25 ?c25 ?k25 ?a26 ?l26 ?c26 ?k26 ?a27 ?l27 ?c27 ?k27 ?a28 ?l28 ?c28 ?k28 ?a29 ?l29 ?c29 ?k29 ?a30 ?l30 ?c30 ?k30 ?a31 ?l31 ?c31 ?k31 ?a32 ?l32 ?c32 ?k32 ?a33 ?l33 ?c33 ?k33 ?a34 ?l34 ?c34 ?k34 ?a35 ?l35 ?c35 ?k35 ?a36 ?l36 ?c36 ?k36 ?a37 ?l37 ?c37 ?k37 ?a38 ?l38 ?c38 ?k38 ?a39 ?l39 ?c39 ?k39 ?a40 ?l40 ?c40 ?k40 ?a41 ?l41 ?c41 ?k41 ?a42 ?l42 ?c42 ?k42 ?z0 ?z1 ?z2 ?z3 ?z4 ?z5 ?z6 ?z7 ?z8 ?z9 ?z10 ?z11 ?z12 ?z13 ?z14 ?z15 ?z16 ?z17 ?z18 ?aM ?lM ?kM ?sM ?pM ?aLt
    (case a1 => k_is)
    (case l1 => k_is)
    (case c1 => k_is)
    (case k1 => k_is)
    (case a2 => k_is)
    (case l2 => k_is)
    (case c2 => k_is)
    (case k2 => k_is)
    (case a3 => k_is)
    (case l3 => k_is)
    (case c3 => k_is)
    (case k3 => k_is)
    (case a4 => k_is)
    (case l4 => k_is)
    (case c4 => k_is)
    (case k4 => k_is)
    (case a5 => k_is)
    (case l5 => k_is)
    (case c5 => k_is)
    (case k5 => k_is)
    (case a6 => k_is)
    (case l6 => k_is)
    (case c6 => k_is)
    (case k6 => k_is)
    (case a7 => k_is)
    (case l7 => k_is)
    (case c7 => k_is)
    (case k7 => k_is)
    (case a8 => k_is)
    (case l8 => k_is)
    (case c8 => k_is)
    (case k8 => k_is)
    (case a9 => k_is)
    (case l9 => k_is)
    (case c9 => k_is)
    (case k9 => k_is)
    (case a10 => k_is)
    (case l10 => k_is)
    (case c10 => k_is)
    (case k10 => k_is)
    (case a11 => k_is)
    (case l11 => k_is)
    (case c11 => k_is)
    (case k11 => k_is)
    (case a12 => k_is)
    (case l12 => k_is)
    (case c12 => k_is)
    (case k12 => k_is)
    (case a13 => k_is)
    (case l13 => k_is)
    (case c13 => k_is)
    (case k13 => k_is)
    (case a14 => k_is)
    (case l14 => k_is)
    (case c14 => k_is)
    (case k14 => k_is)
    (case a15 => k_is)
    (case l15 => k_is)
    (case c15 => k_is)
    (case k15 => k_is)
    (case a16 => k_is)
    (case l16 => k_is)
    (case c16 => k_is)
    (case k16 => k_is)
    (case a17 => k_is)
    (case l17 => k_is)
    (case c17 => k_is)
    (case k17 => k_is)
    (case a18 => k_is)
    (case l18 => k_is)
    (case c18 => k_is)
    (case k18 => k_is)
    (case a19 => k_is)
    (case l19 => k_is)
    (case c19 => k_is)
    (case k19 => k_is)
    (case a20 => k_is)
    (case l20 => k_is)
    (case c20 => k_is)
    (case k20 => k_is)
    (case a21 => k_is)
    (case l21 => k_is)
    (case c21 => k_is)
    (case k21 => k_is)
    (case a22 => k_is)
    (case l22 => k_is)
    (case c22 => k_is)
    (case k22 => k_is)
    (case a23 => k_is)
    (case l23 => k_is)
    (case c23 => k_is)
    (case k23 => k_is)
    (case a24 => k_is)
    (case l24 => k_is)
    (case c24 => k_is)
    (case k24 => k_is)
    (case a25 => k_is)
    (case l25 => k_is)
    (case c25 => k_is)
    (case k25 => k_is)
    (case a26 => k_is)
    (case l26 => k_is)
    (case c26 => k_is)
    (case k26 => k_is)
    (case a27 => k_is)
    (case l27 => k_is)
    (case c27 => k_is)
    (case k27 => k_is)
    (case a28 => k_is)
    (case l28 => k_is)
    (case c28 => k_is)
    (case k28 => k_is)
    (case a29 => k_is)
    (case l29 => k_is)
    (case c29 => k_is)
    (case k29 => k_is)
    (case a30 => k_is)
    (case l30 => k_is)
    (case c30 => k_is)
    (case k30 => k_is)
    (case a31 => k_is)
    (case l31 => k_is)
    (case c31 => k_is)
    (case k31 => k_is)
    (case a32 => k_is)
    (case l32 => k_is)
    (case c32 => k_is)
    (case k32 => k_is)
    (case a33 => k_is)
    (case l33 => k_is)
    (case c33 => k_is)
    (case k33 => k_is)
    (case a34 => k_is)
    (case l34 => k_is)
    (case c34 => k_is)
    (case k34 => k_is)
    (case a35 => k_is)
    (case l35 => k_is)
    (case c35 => k_is)
    (case k35 => k_is)
    (case a36 => k_is)
    (case l36 => k_is)
    (case c36 => k_is)
    (case k36 => k_is)
    (case a37 => k_is)
    (case l37 => k_is)
    (case c37 => k_is)
    (case k37 => k_is)
    (case a38 => k_is)
    (case l38 => k_is)
    (case c38 => k_is)
    (case k38 => k_is)
    (case a39 => k_is)
    (case l39 => k_is)
    (case c39 => k_is)
    (case k39 => k_is)
    (case a40 => k_is)
    (case l40 => k_is)
    (case c40 => k_is)
    (case k40 => k_is)
    (case a41 => k_is)
    (case l41 => k_is)
    (case c41 => k_is)
    (case k41 => k_is)
    (case a42 => k_is)
    (case l42 => k_is)
    (case c42 => k_is)
    (case k42 => k_is)
    (case z0 => k_is)
    (case z1 => k_is)
    (case z2 => k_is)
    (case z3 => k_is)
    (case z4 => k_is)
    (case z5 => k_is)
    (case z6 => k_is)
    (case z7 => k_is)
    (case z8 => k_is)
    (case z9 => k_is)
    (case z10 => k_is)
    (case z11 => k_is)
    (case z12 => k_is)
    (case z13 => k_is)
    (case z14 => k_is)
    (case z15 => k_is)
    (case z16 => k_is)
    (case z17 => k_is)
    (case z18 => k_is)
    (case aM => k_is)
    (case lM => k_is)
    (case kM => k_keys)
    (case sM => decide +kernel)
    (case pM => rfl)
    (case aLt => k_is)
