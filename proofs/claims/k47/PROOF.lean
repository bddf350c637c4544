import PyProof.Rows.All
import Wide.All
import OpenK.AllK
import Wide.FinOn
import HandS.ForMost
import HandS.Wide
import HandS.IsInst
import HandS.EndBits
import HandS.Deep
import HandS.More
import HandS.Conv
import HandS.TupLen
import HandS.Style
import HandS.Walk
import HandS.SortKw
import HandS.RaiseMore
import HandS.Defaults
import HandS.DictTup
import HandS.ListItems
import KE.SortData
import KE.KDictList
import HandS.ForExc
import HandS.ExcIs
import HandS.CallSlots
import KE.KEqDict
import KE.KDictKeyed
import KE.KeyNested
import HandS.ReplaceLit
import HandS.ClsMeth
import PySem.Challenge.RW_manygoings_k47_what_is_a_program
set_option Elab.async false
set_option linter.all false
set_option maxRecDepth 100000
set_option maxHeartbeats 4000000
namespace G
open PySem L2
/-! ### one's own defs, called by name -/
section
variable (P : Program) (w : World) (K : PySem.W.Frag) (mg : Str → Option Value) (base : Heap)
/-- the def that the module's name x holds keeps the promise sp -/
structure Cal (CX : CXT) (k : Nat) (x : Str) (ps : List Str) (sp : Sp) : Prop where
  ex : ∃ (f : Addr) (fd : FuncData), FnOk P w K mg base CX k f fd ps sp ∧ Binds K fd ps [] ∧ PySem.W.keepIn K (.ref f) = true ∧ mg x = some (.ref f)
end
section
variable {X : Cx} {e : Expr} {es : List Expr} {pos p : Pos} {t : TA} {CX : CXT} {k j : Nat} {x : Str} {ps : List Str} {sp : Sp} {E : XK}
def tCal (sp : Sp) (E : XK) (t : TA) : TE := fun σ H Q => t σ H fun vs H1 => sp vs H1 Q E
theorem pe_cal (C : Cal X.prog X.w X.K X.mg X.base CX j x ps sp) (hr : Room j X.A) (hg : Gl X x) (hx : Passes CX X E) (ha : PA X (e :: es) t)
    (hdb : (x == ("__debug__" : Str)) = false := by decide) (he : starEach (e :: es) X.env = (false, eval e X.env) :: starEach es X.env := by rfl) (hpl : (backTo pos (starEach es X.env)).any (·.1) = false := by rfl) :
    PE X (.Call (.Name x p) (e :: es) [] pos) (tCal sp E t) := by
  obtain ⟨f, fd, F, b, kp, hm⟩ := C.ex
  have q := pe_call (p := p) (pos := pos) F hr hg hm kp b .nil hx ha hdb he hpl
  have z : tCall sp [] E t = tCal sp E t := by
    funext σ H Q
    unfold tCall tCal
    simp only [List.append_nil]
  rw [z] at q
  exact q
theorem pe_cal0 (C : Cal X.prog X.w X.K X.mg X.base CX j x ps sp) (hr : Room j X.A) (hg : Gl X x) (hx : Passes CX X E)
    (hdb : (x == ("__debug__" : Str)) = false := by decide) : PE X (.Call (.Name x p) [] [] pos) (tCal sp E tNil) := by
  obtain ⟨f, fd, F, b, kp, hm⟩ := C.ex
  have q := pe_call0 (p := p) (pos := pos) F hr hg hm kp b .nil hx hdb
  have z : tCall sp [] E tNil = tCal sp E tNil := by
    funext σ H Q
    unfold tCall tCal
    simp only [List.append_nil]
  rw [z] at q
  exact q
theorem Cal.of {P : Program} {w : World} {K : PySem.W.Frag} {mg : Str → Option Value} {base : Heap} {f : Addr} {fd : FuncData} (F : FnOk P w K mg base CX j f fd ps sp) (b : Binds K fd ps []) (kp : PySem.W.keepIn K (.ref f) = true) (hm : mg x = some (.ref f)) :
    Cal P w K mg base CX j x ps sp := ⟨f, fd, F, b, kp, hm⟩
end
/-! ### errors of one's own classes -/
/-- what the written part says of an error's class -/
structure XOk (K : PySem.W.Frag) (mg : Str → Option Value) (x : Str) (C : Addr) : Prop where
  g : mg x = some (.ref C)
  x : PySem.W.excIn K C [.type "ValueError", .type "Exception", .type "BaseException", .type "object"] "ValueError.__new__" = true
  k : PySem.W.keepIn K (.ref C) = true
  b : PySem.W.subIn K (.ref C) (.type "BaseException") = some true
  t : PySem.W.typeIn K (.ref C) = some (.type "type")
theorem passF {X : Cx} : Passes (L2.CX X.prog X.w) X E0 := fun _ _ _ _ _ _ _ h => by
  obtain ⟨_, _, _, _, _, _, _, _, _, _, _, _, z⟩ := h
  exact z.elim
theorem takesF {X : Cx} : Takes X (fun _ _ _ _ => False) := fun _ _ x => by
  obtain ⟨_, _, _, _, _, _, _, _, _, _, _, _, _, _, _, _, z⟩ := x
  exact z.elim
section
variable {X : Cx} {e : Expr} {es : List Expr} {pos p : Pos} {t : TA} {ta : TE} {CX : CXT} {k j : Nat} {x : Str} {ps : List Str} {sp : Sp} {E : St → XK}
theorem pe_calS (C : Cal X.prog X.w X.K X.mg X.base CX j x ps sp) (hr : Room j X.A) (hg : Gl X x) (hx : ∀ σ, PassesAt CX X σ (E σ)) (ha : PA X (e :: es) t)
    (hdb : (x == ("__debug__" : Str)) = false := by decide) (he : starEach (e :: es) X.env = (false, eval e X.env) :: starEach es X.env := by rfl) (hpl : (backTo pos (starEach es X.env)).any (·.1) = false := by rfl) :
    PE X (.Call (.Name x p) (e :: es) [] pos) (tCallS sp E t) := by
  obtain ⟨f, fd, F, b, kp, hm⟩ := C.ex
  exact pe_callS (p := p) (pos := pos) F hr hg hm kp b hx ha hdb he hpl
/-- raise X('..') -/
def tRaise (C : Addr) (W : WX) : TS := fun _ σ H => W (.ref C) none σ H
theorem ps_raiseO {C : Addr} {W : WX} {m : Str} {jj : Nat} {p2 pos' : Pos} (hc : X.calm = true) (tk : Takes X W) (T : XOk X.K X.mg x C) (hg : Gl X x) (hdb : (x == ("__debug__" : Str)) = false := by decide) : PS X (.Raise (some (.Call (.Name x p) [.Constant (.str m) jj p2] [] pos')) none pos) (tRaise C W) :=
  ps_raise hc tk (pmk_own PySem.F.excBase_ValueError T.x T.g T.k (raises_own T.b T.t) hg hdb)
/-- try: .. except X: .. -/
def tTry1 (K : PySem.W.Frag) (c : Value) (tb : WX → TS) (ts : Addr → Value → Option Addr → TS) (Wout : WX) : TS := fun D σ H => tb (wOnly K c ts Wout D) D σ H
theorem ps_try1 {c : Value} {body suite : List Stmt} {b₀ : Stmt} {np pos' : Pos} {tb : WX → TS} {ts : Addr → Value → Option Addr → TS} {Wout : WX} (hs : X.stack = X.env :: X.outer) (hf : X.env.frame = some X.env.locals) (hc : Names X x c) (tk : Takes X Wout)
    (hb : ∀ (W : WX) (pn : List (Addr × Obj)) (xe : Value → Shared → Prop), Takes (X.tr pn xe) W → PassesOwn (model X.prog X.w) X.A X.env xe → PSs (X.tr pn xe) body (tb W))
    (hsu : ∀ (a : Addr) (oe : Obj) (cls : Value) (d : Option Addr) (pn : List (Addr × Obj)), Zc cls d oe → (∃ vs, oe.data = .fields vs) → PSs (X.suite a ((a, oe) :: pn)) (b₀ :: suite) (ts a cls d)) :
    PS X (.Try body [.ExceptHandler (some (.Name x np)) none (b₀ :: suite) pos'] [] [] pos) (tTry1 X.K c tb ts Wout) := ps_try_only hs hf hc tk hb hsu
end
/-! ### classes of one's own -/
structure ClsOk (K : PySem.W.Frag) (C : Addr) (fs : List Str) : Prop where
  cl : Cls K C
  no : ∀ f ∈ fs, NoAttr K C f
section
variable (P : Program) (w : World) (K : PySem.W.Frag) (mg : Str → Option Value) (base : Heap)
/-- the method m of the class keeps the promise sp; dvs fill up behind the given ones -/
structure CalM (CX : CXT) (k : Nat) (C : Addr) (m : Str) (ps : List Str) (dvs : List V) (sp : Sp) : Prop where
  ex : ∃ (f : Addr) (fd : FuncData) (ds : List Value), FnOk P w K mg base CX k f fd ps sp ∧ Binds K fd ps ds ∧ Vals dvs ds ∧ Meth K C m f ∧ Cls K C
/-- the class that the module's name x holds is made by an __init__ that keeps the promise sp -/
structure CalK (CX : CXT) (k : Nat) (C : Addr) (x : Str) (ps : List Str) (sp : Sp) : Prop where
  ex : ∃ (f : Addr) (fd : FuncData), FnOk P w K mg base CX k f fd ps sp ∧ Binds K fd ps [] ∧ Mk K C f ∧ mg x = some (.ref C)
end
section
variable {X : Cx} {o e : Expr} {es : List Expr} {pos apos p : Pos} {t : TA} {ta : TE} {CX : CXT} {k j : Nat} {m x : Str} {ps : List Str} {dvs : List V} {sp : Sp} {E : XK} {C : Addr} {pl : Sem Bool}
theorem pe_calM (M : CalM X.prog X.w X.K X.mg X.base CX j C m ps dvs sp) (hr : Room j X.A) (hx : Passes CX X E) (he : PE X o ta) (ha : PA X (e :: es) t)
    (hst : starEach (e :: es) X.env = (false, eval e X.env) :: starEach es X.env := by rfl) (hpl : (backTo pos (starEach es X.env)).any (·.1) = false := by rfl)
    (ht : eval (.Call (.Attribute o m apos) (e :: es) [] pos) X.env = (do
      let ov ← eval o X.env
      standAt apos.atName
      let (f, first) ← holding [ov] (getMethod ov m pl)
      callWith pos f first (backTo pos (starEach (e :: es) X.env)) (backToKw pos (keywordEach [] X.env))) := by rfl) :
    PE X (.Call (.Attribute o m apos) (e :: es) [] pos) (tMeth C m sp dvs E ta t) := by
  obtain ⟨f, fd, ds, F, b, v, me, c⟩ := M.ex
  exact pe_meth (pl := pl) he c me F hr b v hx ha hst hpl ht
theorem pe_calM0 (M : CalM X.prog X.w X.K X.mg X.base CX j C m ps dvs sp) (hr : Room j X.A) (hx : Passes CX X E) (he : PE X o ta)
    (ht : eval (.Call (.Attribute o m apos) [] [] pos) X.env = (do
      let ov ← eval o X.env
      standAt apos.atName
      let (f, first) ← holding [ov] (getMethod ov m pl)
      callWith pos f first (backTo pos (starEach [] X.env)) (backToKw pos (keywordEach [] X.env))) := by rfl) :
    PE X (.Call (.Attribute o m apos) [] [] pos) (tMeth C m sp dvs E ta tNil) := by
  obtain ⟨f, fd, ds, F, b, v, me, c⟩ := M.ex
  exact pe_meth0 (pl := pl) he c me F hr b v hx ht
theorem pe_calK0 (M : CalK X.prog X.w X.K X.mg X.base CX j C x ps sp) (hr : Room (j + 1) X.A) (hg : Gl X x) (hx : Passes CX X E) (hdb : (x == ("__debug__" : Str)) = false := by decide) :
    PE X (.Call (.Name x p) [] [] pos) (tMake C sp [] E tNil) := by
  obtain ⟨f, fd, F, b, mk, hm⟩ := M.ex
  exact pe_make0 mk F hr hg hm b .nil hx hdb
theorem pe_calK (M : CalK X.prog X.w X.K X.mg X.base CX j C x ps sp) (hr : Room (j + 1) X.A) (hg : Gl X x) (hx : Passes CX X E) (ha : PA X (e :: es) t)
    (hdb : (x == ("__debug__" : Str)) = false := by decide) (he : starEach (e :: es) X.env = (false, eval e X.env) :: starEach es X.env := by rfl) (hpl : (backTo pos (starEach es X.env)).any (·.1) = false := by rfl) :
    PE X (.Call (.Name x p) (e :: es) [] pos) (tMake C sp [] E t) := by
  obtain ⟨f, fd, F, b, mk, hm⟩ := M.ex
  exact pe_make mk F hr hg hm b .nil hx ha hdb he hpl
end
/-! ### methods that may raise -/
def tMethS (C : Addr) (m : Str) (sp : Sp) (dvs : List V) (E : L2.St → XK) (ta : TE) (t : TA) : TE := fun σ H Q => ta σ H fun x H1 => ∃ a dx fs, x = .ref a ∧ H1 a = some (.ins C dx fs) ∧ fs.lookup m = none ∧
  t σ H1 fun vs H2 => sp (x :: (vs ++ dvs)) H2 Q (E σ)
section
variable {X : Cx} {o e : Expr} {es : List Expr} {pos apos p : Pos} {t : TA} {ta : TE} {CX : CXT} {k j : Nat} {m x : Str} {ps : List Str} {dvs : List V} {sp : Sp} {E : L2.St → XK} {C : Addr} {pl : Sem Bool}
theorem pe_calMS (M : CalM X.prog X.w X.K X.mg X.base CX j C m ps dvs sp) (hr : Room j X.A) (hx : ∀ σ, PassesAt CX X σ (E σ)) (he : PE X o ta) (ha : PA X (e :: es) t)
    (hst : starEach (e :: es) X.env = (false, eval e X.env) :: starEach es X.env := by rfl) (hpl : (backTo pos (starEach es X.env)).any (·.1) = false := by rfl)
    (ht : eval (.Call (.Attribute o m apos) (e :: es) [] pos) X.env = (do
      let ov ← eval o X.env
      standAt apos.atName
      let (f, first) ← holding [ov] (getMethod ov m pl)
      callWith pos f first (backTo pos (starEach (e :: es) X.env)) (backToKw pos (keywordEach [] X.env))) := by rfl) :
    PE X (.Call (.Attribute o m apos) (e :: es) [] pos) (tMethS C m sp dvs E ta t) := by
  obtain ⟨f, fd, ds, F, b, v, me, c⟩ := M.ex
  refine ⟨fun pins s σ H Q I h => ?_⟩
  refine PySem.W.methodCall_KW (pl := pl) (thn (he.run pins s σ H _ I h) fun u s1 ⟨x, H1, I1, rx, a, dx, fs, ex, ea, l, q⟩ => ?_) ht
  subst ex
  obtain rfl : u = Value.ref a := rx
  refine getmeth_ok I1 ea c me l ?_
  refine PySem.W.callWith_K (first := [.ref a]) (h₀ := X.base) I.ok.mod.kin me.kp (thn (ha.run pos pins s1 σ H1 _ I1 q) fun us s2 ⟨vs, H2, I2, r, q2⟩ => ⟨I2.kIn, ?_⟩) hst hpl
  exact L2.run_fnSD (us := .ref a :: us) (vs := .ref a :: vs) F hr b v (hx σ) I2 (.cons rfl r) q2
theorem pe_calMS0 (M : CalM X.prog X.w X.K X.mg X.base CX j C m ps dvs sp) (hr : Room j X.A) (hx : ∀ σ, PassesAt CX X σ (E σ)) (he : PE X o ta)
    (ht : eval (.Call (.Attribute o m apos) [] [] pos) X.env = (do
      let ov ← eval o X.env
      standAt apos.atName
      let (f, first) ← holding [ov] (getMethod ov m pl)
      callWith pos f first (backTo pos (starEach [] X.env)) (backToKw pos (keywordEach [] X.env))) := by rfl) :
    PE X (.Call (.Attribute o m apos) [] [] pos) (tMethS C m sp dvs E ta tNil) := by
  obtain ⟨f, fd, ds, F, b, v, me, c⟩ := M.ex
  refine ⟨fun pins s σ H Q I h => ?_⟩
  refine PySem.W.methodCall_KW (pl := pl) (thn (he.run pins s σ H _ I h) fun u s1 ⟨x, H1, I1, rx, a, dx, fs, ex, ea, l, q⟩ => ?_) ht
  subst ex
  obtain rfl : u = Value.ref a := rx
  refine getmeth_ok I1 ea c me l ?_
  exact PySem.W.callWith_K0 (first := [.ref a]) I1.kIn me.kp (L2.run_fnSD (us := [.ref a]) (vs := [.ref a]) F hr b v (hx σ) I1 (.cons rfl .nil) q)
end
/-! ### a rule's reading told with another K that is the same -/
section
variable {X : Cx} {e : Expr} {tg : Expr}
theorem kPE {t : TE} (t' : TE) (h : PE X e t) (q : t = t') : PE X e t' := q ▸ h
theorem kPI {t : TI} (t' : TI) (h : PI X tg e t) (q : t = t') : PI X tg e t' := q ▸ h
theorem kPG {t : TG} (t' : TG) (h : PG X e t) (q : t = t') : PG X e t' := q ▸ h
theorem kPT {t : TT} (t' : TT) (h : PT X e t) (q : t = t') : PT X e t' := q ▸ h
theorem kIxR {r : V → V → Hp → VK → Prop} (r' : V → V → Hp → VK → Prop) (h : IxR X r) (q : r = r') : IxR X r' := q ▸ h
theorem kSlR {r : V → Option Int → Option Int → Hp → VK → Prop} (r' : V → Option Int → Option Int → Hp → VK → Prop) (h : SlR X r) (q : r = r') : SlR X r' := q ▸ h
theorem kOpR {o : Value → Value → Sem Value} {r : R2} (r' : R2) (h : OpR X o r) (q : r = r') : OpR X o r' := q ▸ h
theorem kCallR {f : Value} {r : List V → Hp → VK → Prop} (r' : List V → Hp → VK → Prop) (h : CallR X f r) (q : r = r') : CallR X f r' := q ▸ h
end
abbrev rLenK (K : PySem.W.Frag) : List V → Hp → VK → Prop := fun xs H Q => ∃ x n, xs = [x] ∧ LenV K x H n ∧ Q (.int ↑n) H
abbrev rListOf (K : PySem.W.Frag) : List V → Hp → VK → Prop := fun xs H Q => ∃ p ys, xs = [V.ref p] ∧ (SqL K H p ys ∨ SqT K H p ys) ∧ ∀ (l : Addr), H l = none → Q (V.ref l) (upd H l (HO.lst ys))
abbrev rTupOf (K : PySem.W.Frag) : List V → Hp → VK → Prop := fun xs H Q => ∃ p ys, xs = [V.ref p] ∧ ((SqL K H p ys ∧ ∀ (l : Addr), H l = none → Q (V.ref l) (upd H l (HO.tup ys))) ∨ SqT K H p ys ∧ Q (V.ref p) H)
abbrev rJoin (K : PySem.W.Frag) : V → List V → Hp → VK → Prop := fun x xs H Q => ∃ a p, ∃ ys : List Str, x = .str a ∧ xs = [.ref p] ∧ (SqL K H p (ys.map V.str) ∨ SqT K H p (ys.map V.str)) ∧ (ys.map (·.length)).sum + ys.length * a.length ≤ 16777216 ∧ Q (.str (Txt.join a ys)) H
abbrev tTru (K : PySem.W.Frag) (ta : TE) : TT := fun σ H Q => ta σ H fun x H' => ∃ k, TruV K x H' k ∧ Q k H'
abbrev NewT (xs : List V) (H : Hp) (Q : VK) : Prop := xs.length ≤ sizeLine ∧ ∀ p, H p = none → Q (.ref p) (upd H p (.tup xs))
abbrev NewL (xs : List V) (H : Hp) (Q : VK) : Prop := xs.length ≤ sizeLine ∧ ∀ p, H p = none → Q (.ref p) (upd H p (.lst xs))
abbrev DGet2G (d : Addr) (y z : V) (H : Hp) (Q : VK) : Prop := ∃ o, DGet H d y o ∧ Q (o.getD z) H
abbrev DAugG (x y : V) (H : Hp) (R : Addr → V → Prop) : Prop := ∃ a v, x = .ref a ∧ DGet H a y (some v) ∧ R a v
abbrev DPopG (d : Addr) (y : V) (H : Hp) (Q : VK) : Prop := ∃ kvs k v, H d = some (.dK kvs) ∧ y = kV k ∧ valV kvs k = some v ∧ Q v (upd H d (.dK (dropK kvs k)))
abbrev DInG (x y : V) (H : Hp) (Q : VK) : Prop := ∃ a o, x = .ref a ∧ DGet H a y o ∧ Q (.bl o.isSome) H
abbrev DNinG (x y : V) (H : Hp) (Q : VK) : Prop := ∃ a o, x = .ref a ∧ DGet H a y o ∧ Q (.bl (!o.isSome)) H
abbrev DGetG (x y : V) (H : Hp) (Q : VK) : Prop := ∃ a v, x = .ref a ∧ DGet H a y (some v) ∧ Q v H
abbrev RevG (K : PySem.W.Frag) (x : V) (H : Hp) (Q : VK) : Prop := ∃ a xs, x = .ref a ∧ SqL K H a xs ∧ ∀ p, H p = none → Q (.ref p) (upd H p (.lst xs.reverse))
abbrev rInsert : V → List V → Hp → VK → Prop := fun x vs H Q => ∃ (l : Addr) (xs : List V) (i : Int) (y : V), x = .ref l ∧ vs = [.int i, y] ∧ H l = some (.lst xs) ∧ xs.length < sizeLine ∧ 0 ≤ i ∧ i < 2 ^ 63 ∧ Q .non (upd H l (.lst (xs.take i.toNat ++ [y] ++ xs.drop i.toNat)))
/-- the built-in names that no module's name hides -/
structure Tx (mg : Str → Option Value) : Prop where
  n_len : mg "len" = none
  n_isinstance : mg "isinstance" = none
  range : mg "range" = none
  n_max : mg "max" = none
  n_min : mg "min" = none
  n_int : mg "int" = none
  n_bool : mg "bool" = none
  n_str : mg "str" = none
  n_list : mg "list" = none
  n_tuple : mg "tuple" = none
  n_dict : mg "dict" = none
  n_sorted : mg "sorted" = none
  n_sum : mg "sum" = none
  n_all : mg "all" = none
  n_any : mg "any" = none
  enumerate : mg "enumerate" = none
  zip : mg "zip" = none
  reversed : mg "reversed" = none
  n_ValueError : mg "ValueError" = none
  n_abs : mg "abs" = none

/-! ### readings, one step at a time -/
section
variable {σ : L2.St} {H : Hp} {Q : VK} {nx : L2.St → Hp → Prop} {rt : VK} {bk ct : L2.St → Hp → Prop} {t u : TS} {te ta tb tv : TE} {tt tc : TT} {tl : TA} {g : TG} {v x y : V} {i : Nat} {K : PySem.W.Frag}
theorem r_seq (h : t ⟨u ⟨nx, rt, bk, ct⟩, rt, bk, ct⟩ σ H) : tSeq t u ⟨nx, rt, bk, ct⟩ σ H := h
theorem r_asg (h : te σ H fun x H1 => g x σ H1 nx) : tAsg te g ⟨nx, rt, bk, ct⟩ σ H := h
theorem r_name {Q : L2.St → Hp → Prop} {σ' : L2.St} (e : σ.set i (some v) = σ') (h : Q σ' H) : gName i v σ H Q := by
  subst e
  exact h
theorem r_begin {D : Ends} {σ' : L2.St} (e : σ = σ') (h : t D σ' H) : t D σ H := by
  subst e
  exact h
theorem r_ret (h : te σ H rt) : tRet te ⟨nx, rt, bk, ct⟩ σ H := h
theorem r_retN (h : rt .non H) : tRetN ⟨nx, rt, bk, ct⟩ σ H := h
theorem r_next (h : nx σ H) : tNext ⟨nx, rt, bk, ct⟩ σ H := h
theorem r_brk (h : bk σ H) : tBreak ⟨nx, rt, bk, ct⟩ σ H := h
theorem r_cont (h : ct σ H) : tCont ⟨nx, rt, bk, ct⟩ σ H := h
theorem r_drop (h : te σ H fun _ H1 => nx σ H1) : tDrop te ⟨nx, rt, bk, ct⟩ σ H := h
theorem r_if (h : tc σ H fun b H1 => if b = true then t ⟨nx, rt, bk, ct⟩ σ H1 else u ⟨nx, rt, bk, ct⟩ σ H1) : tIfS tc t u ⟨nx, rt, bk, ct⟩ σ H := h
theorem r_var (e : σ[i]? = some (some v)) (h : Q v H) : tVar i σ H Q := ⟨v, e, h⟩
theorem r_c (h : Q v H) : tC v σ H Q := h
theorem r_op {r : R2} (h : ta σ H fun x H1 => tb σ H1 fun y H2 => r x y H2 Q) : tOp r ta tb σ H Q := h
theorem r_un {r : V → Hp → VK → Prop} (h : ta σ H fun x H1 => r x H1 Q) : tUn r ta σ H Q := h
theorem r_i0 {f : Int → Int → V} {a b : Int} (h : Q (f a b) H) : rI0 f (.int a) (.int b) H Q := ⟨a, b, rfl, rfl, h⟩
theorem r_i {C : Int → Int → Prop} {f : Int → Int → V} {a b : Int} (c : C a b) (h : Q (f a b) H) : rI C f (.int a) (.int b) H Q := ⟨a, b, rfl, rfl, c, h⟩
theorem r_u {f : Int → V} {a : Int} (h : Q (f a) H) : rU f (.int a) H Q := ⟨a, rfl, h⟩
theorem r_eq (s : scal x y = true) (h : Q (.bl (decide (x = y))) H) : rEq x y H Q := ⟨s, h⟩
theorem r_ne (s : scal x y = true) (h : Q (.bl (!decide (x = y))) H) : rNe x y H Q := ⟨s, h⟩
theorem r_test {Q : Bool → Hp → Prop} (h : te σ H fun x H' => ∃ k, x = .bl k ∧ Q k H') : tTest te σ H Q := h
theorem r_tB {Q : Bool → Hp → Prop} (h : te σ H fun x H' => ∃ k, x = .bl k ∧ Q k H') : tB te σ H Q := h
theorem r_bl {Q : Bool → Prop} {b : Bool} (h : Q b) : ∃ k, V.bl b = .bl k ∧ Q k := ⟨b, rfl, h⟩
theorem r_and {Q : Bool → Hp → Prop} (h : tt σ H fun c H1 => if c = true then tc σ H1 Q else Q false H1) : tAnd tt tc σ H Q := h
theorem r_or {Q : Bool → Hp → Prop} (h : tt σ H fun c H1 => if c = true then Q true H1 else tc σ H1 Q) : tOr tt tc σ H Q := h
theorem r_not {Q : Bool → Hp → Prop} (h : tt σ H fun c H1 => Q (!c) H1) : tNot tt σ H Q := h
theorem r_andV (h : ta σ H fun x H1 => ∃ c, x = .bl c ∧ if c = true then tb σ H1 Q else Q (.bl false) H1) : tAndV ta tb σ H Q := h
theorem r_orV (h : ta σ H fun x H1 => ∃ c, x = .bl c ∧ if c = true then Q (.bl true) H1 else tb σ H1 Q) : tOrV ta tb σ H Q := h
theorem r_notV (h : ta σ H fun x H1 => ∃ c, x = .bl c ∧ Q (.bl (!c)) H1) : tNotV ta σ H Q := h
theorem r_ifE (h : tt σ H fun c H1 => if c = true then ta σ H1 Q else tb σ H1 Q) : tIf tt ta tb σ H Q := h
theorem r_cb {r : List V → Hp → VK → Prop} (h : tl σ H fun vs H1 => r vs H1 Q) : tCB r tl σ H Q := h
theorem r_meth {C : Addr} {m : Str} {sp : Sp} {dvs : List V} {E : XK} (h : ta σ H fun x H1 => ∃ a dx fs, x = .ref a ∧ H1 a = some (.ins C dx fs) ∧ fs.lookup m = none ∧ tl σ H1 fun vs H2 => sp (x :: (vs ++ dvs)) H2 Q E) : tMeth C m sp dvs E ta tl σ H Q := h
theorem r_methS {C : Addr} {m : Str} {sp : Sp} {dvs : List V} {E : L2.St → XK} (h : ta σ H fun x H1 => ∃ a dx fs, x = .ref a ∧ H1 a = some (.ins C dx fs) ∧ fs.lookup m = none ∧ tl σ H1 fun vs H2 => sp (x :: (vs ++ dvs)) H2 Q (E σ)) : tMethS C m sp dvs E ta tl σ H Q := h
theorem r_mfld {a C dx : Addr} {fs : List (Str × V)} {m : Str} {R : Prop} (e : H a = some (.ins C dx fs)) (l : fs.lookup m = none) (h : R) : ∃ b dx fs, V.ref a = .ref b ∧ H b = some (.ins C dx fs) ∧ fs.lookup m = none ∧ R := ⟨a, dx, fs, rfl, e, l, h⟩
theorem r_make {C : Addr} {sp : Sp} {dvs : List V} {E : XK} (h : tl σ H fun vs H1 => ∀ x dx, H1 x = none → H1 dx = none → dx ≠ x → sp (.ref x :: (vs ++ dvs)) (upd (upd H1 dx (.own x)) x (.ins C dx [])) (fun v H2 => v = .non ∧ Q (.ref x) H2) E) : tMake C sp dvs E tl σ H Q := h
theorem r_fld {f : Str} (h : ta σ H fun x H1 => ∃ a C dx fs v, x = .ref a ∧ H1 a = some (.ins C dx fs) ∧ Cls K C ∧ NoAttr K C f ∧ fs.lookup f = some v ∧ Q v H1) : tFld K ta f σ H Q := h
theorem r_fldv {a C dx : Addr} {fs : List (Str × V)} {f : Str} {ks : List Str} {R : V → Prop} (T : ClsOk K C ks) (e : H a = some (.ins C dx fs)) (m : f ∈ ks) (l : fs.lookup f = some v) (h : R v) : ∃ b C dx fs v, V.ref a = .ref b ∧ H b = some (.ins C dx fs) ∧ Cls K C ∧ NoAttr K C f ∧ fs.lookup f = some v ∧ R v := ⟨a, C, dx, fs, v, rfl, e, T.cl, T.no f m, l, h⟩
theorem r_sfld {f : Str} (h : tb σ H fun y H1 => ta σ H1 fun x H2 => ∃ a C dx fs, x = .ref a ∧ H2 a = some (.ins C dx fs) ∧ Cls K C ∧ NoAttr K C f ∧ fs.length < 1000 ∧ nx σ (upd H2 a (.ins C dx (putF f y fs)))) : sFld K ta tb f ⟨nx, rt, bk, ct⟩ σ H := h
theorem r_sfldv {a C dx : Addr} {fs fs' : List (Str × V)} {f : Str} {ks : List Str} {R : Hp → Prop} {y : V} (T : ClsOk K C ks) (e : H a = some (.ins C dx fs)) (m : f ∈ ks) (l : fs.length < 1000) (p : putF f y fs = fs') (h : R (upd H a (.ins C dx fs'))) : ∃ b C dx fs, V.ref a = .ref b ∧ H b = some (.ins C dx fs) ∧ Cls K C ∧ NoAttr K C f ∧ fs.length < 1000 ∧ R (upd H b (.ins C dx (putF f y fs))) := ⟨a, C, dx, fs, rfl, e, T.cl, T.no f m, l, by rw [p]; exact h⟩
theorem r_chain {r r' : R2} {tc : TE} (h : ta σ H fun x H1 => tb σ H1 fun y H2 => r x y H2 fun z H3 => ∃ k, z = .bl k ∧ (if k = true then tc σ H3 fun w' H4 => r' y w' H4 Q else Q (.bl false) H3)) : tChain r r' ta tb tc σ H Q := h
theorem r_cbk {r : List V → List V → Hp → VK → Prop} {tk : TA} (h : tl σ H fun vs H1 => tk σ H1 fun zs H2 => r vs zs H2 Q) : tCKw r tl tk σ H Q := h
theorem r_cal {sp : Sp} {E : XK} (h : tl σ H fun vs H1 => sp vs H1 Q E) : tCal sp E tl σ H Q := h
theorem r_calS {sp : Sp} {E : L2.St → XK} (h : tl σ H fun vs H1 => sp vs H1 Q (E σ)) : tCallS sp E tl σ H Q := h
theorem r_raise {C : Addr} {W : WX} (h : W (.ref C) none σ H) : tRaise C W ⟨nx, rt, bk, ct⟩ σ H := h
theorem r_try1 {c : Value} {tb : WX → TS} {ts : Addr → Value → Option Addr → TS} {Wout : WX} (h : tb (wOnly K c ts Wout ⟨nx, rt, bk, ct⟩) ⟨nx, rt, bk, ct⟩ σ H) : tTry1 K c tb ts Wout ⟨nx, rt, bk, ct⟩ σ H := h
theorem r_nil {Q : List V → Hp → Prop} (h : Q [] H) : tNil σ H Q := h
theorem r_cons {Q : List V → Hp → Prop} (h : te σ H fun x H1 => tl σ H1 fun xs H2 => Q (x :: xs) H2) : tCons te tl σ H Q := h
theorem r_tup (h : tl σ H fun xs H1 => NewT xs H1 Q) : tTup tl σ H Q := h
theorem r_lst (h : tl σ H fun xs H1 => NewL xs H1 Q) : tLst tl σ H Q := h
theorem r_ixL {p : Addr} {xs : List V} {i : Int} (hs : SqL K H p xs) (e : atI xs i = some v) (h : Q v H) : rIxL K (.ref p) (.int i) H Q := ⟨p, xs, i, v, rfl, rfl, hs, e, h⟩
theorem r_ixT {p : Addr} {xs : List V} {i : Int} (hs : SqT K H p xs) (e : atI xs i = some v) (h : Q v H) : rIxT K (.ref p) (.int i) H Q := ⟨p, xs, i, v, rfl, rfl, hs, e, h⟩
theorem r_ixl {p : Addr} {xs : List V} {i : Int} (hs : H p = some (.lst xs)) (e : atI xs i = some v) (h : Q v H) : rIxL K (.ref p) (.int i) H Q := ⟨p, xs, i, v, rfl, rfl, .inl (.inl hs), e, h⟩
theorem r_ixt {p : Addr} {xs : List V} {i : Int} (hs : H p = some (.tup xs)) (e : atI xs i = some v) (h : Q v H) : rIxT K (.ref p) (.int i) H Q := ⟨p, xs, i, v, rfl, rfl, .inl (.inl hs), e, h⟩
theorem r_ixS {z : Str} {i : Int} {c : Nat} (hz : z.length ≤ sizeLine) (e : atI z.cps.toList i = some c) (h : Q (.str ⟨#[c]⟩) H) : rIxS (.str z) (.int i) H Q := ⟨z, i, c, rfl, rfl, hz, e, h⟩
theorem r_ix {r : V → V → Hp → VK → Prop} (h : r x y H Q) : (fun x y H Q => r x y H Q) x y H Q := h
theorem r_sub {o j : TE} {ts : TSet} {Q : L2.St → Hp → Prop} (h : o σ H fun a H1 => j σ H1 fun b H2 => ts a b v H2 fun H3 => Q σ H3) : gSub o j ts v σ H Q := h
theorem r_setL {p : Addr} {xs ys : List V} {k : Int} {j : Nat} {Q : Hp → Prop} (hs : H p = some (.lst xs)) (e : ixN xs.length k = some j) (e2 : xs.set j v = ys) (h : Q (upd H p (.lst ys))) : rSetL (.ref p) (.int k) v H Q := by
  subst e2
  exact ⟨p, xs, k, j, rfl, rfl, hs, e, h⟩
theorem r_gtup {p : Addr} {xs : List V} {n : Nat} {ts : TGs} {Q : L2.St → Hp → Prop} (hs : H p = some (.tup xs)) (hn : xs.length = n) (h : ts xs σ H Q) : gTup K n ts (.ref p) σ H Q := ⟨p, xs, rfl, .inl (.inl hs), hn, h⟩
theorem r_gcons {ts : TGs} {vs : List V} {Q : L2.St → Hp → Prop} (h : g v σ H fun σ' H' => ts vs σ' H' Q) : gCons g ts (v :: vs) σ H Q := ⟨v, vs, rfl, h⟩
theorem r_gnil {Q : L2.St → Hp → Prop} (h : Q σ H) : gNil [] σ H Q := ⟨rfl, h⟩
theorem r_bm {T : String} {r : V → List V → Hp → VK → Prop} (h : ta σ H fun x H1 => tyV K T x H1 ∧ tl σ H1 fun xs H2 => r x xs H2 Q) : tBM K T r ta tl σ H Q := h
theorem r_bm0 {T : String} {r : V → List V → Hp → VK → Prop} (h : ta σ H fun x H1 => tyV K T x H1 ∧ r x [] H1 Q) : tBM0 K T r ta σ H Q := h
theorem r_tyL {p : Addr} {xs : List V} {R : Prop} (hs : H p = some (.lst xs)) (h : R) : tyV K "list" (.ref p) H ∧ R := ⟨.inl ⟨rfl, _, .inl (.inl hs)⟩, h⟩
theorem r_app {p : Addr} {xs : List V} (hs : H p = some (.lst xs)) (hz : xs.length < sizeLine) (h : Q .non (upd H p (.lst (xs ++ [v])))) : rAppend (.ref p) [v] H Q := ⟨p, xs, v, rfl, rfl, hs, hz, h⟩
theorem r_rev {p : Addr} {xs : List V} (hs : H p = some (.lst xs)) (h : Q .non (upd H p (.lst xs.reverse))) : rReverse (.ref p) [] H Q := ⟨p, xs, rfl, rfl, hs, h⟩
theorem r_cat {p q : Addr} {xs ys : List V} (h1 : H p = some (.lst xs)) (h2 : H q = some (.lst ys)) (hz : xs.length + ys.length ≤ sizeLine) (h : ∀ c, H c = none → Q (.ref c) (upd H c (.lst (xs ++ ys)))) : rCat (.ref p) (.ref q) H Q := ⟨p, q, xs, ys, rfl, rfl, h1, h2, hz, h⟩
theorem r_revL (h : te σ H fun x H1 => RevG K x H1 Q) : tRevL K te σ H Q := h
theorem r_ext {p q : Addr} {xs ys : List V} (h1 : H p = some (.lst xs)) (h2 : H q = some (.lst ys)) (hz : xs.length + ys.length ≤ sizeLine) (h : Q .non (upd H p (.lst (xs ++ ys)))) : rExtend (.ref p) [.ref q] H Q := ⟨p, q, xs, ys, rfl, rfl, h1, h2, hz, h⟩
theorem r_dget {td ty : TE} (h : td σ H fun x H1 => ty σ H1 fun y H2 => DGetG x y H2 Q) : tDGet td ty σ H Q := h
theorem r_din {td ty : TE} (h : ty σ H fun y H1 => td σ H1 fun x H2 => DInG x y H2 Q) : tDIn ty td σ H Q := h
theorem r_dnin {td ty : TE} (h : ty σ H fun y H1 => td σ H1 fun x H2 => DNinG x y H2 Q) : tDNotIn ty td σ H Q := h
theorem r_slc {r : V → Option Int → Option Int → Hp → VK → Prop} {to th : TO} (h : te σ H fun x H1 => to σ H1 fun l H2 => th σ H2 fun u H3 => r x l u H3 Q) : tSl r te to th σ H Q := h
theorem r_nop {Q : Option Int → Hp → Prop} (h : Q none H) : tNoPart σ H Q := h
theorem r_part {Q : Option Int → Hp → Prop} (h : te σ H fun x H1 => ∃ i, x = .int i ∧ Q (some i) H1) : tPart te σ H Q := h
theorem r_int {Q : Int → Prop} {a : Int} (h : Q a) : ∃ k, V.int a = .int k ∧ Q k := ⟨a, rfl, h⟩
theorem r_isi {T C : String} {b : Bool} (h : TyX K H x (.type T)) (e : kitB T C = some b) (q : Q (.bl b) H) : rIsi K [x, .ty C] H Q := ⟨x, .ty C, _, _, b, rfl, .ty C, h, kit_ty e, q⟩
theorem r_disp {trs : List (TE × TE)} (h : ∀ p, H p = none → tPairs trs σ (upd H p (.dK [])) fun ps H2 => H2 p = some (.dK []) ∧ ∃ kvs : List (Key × V), ps = kvs.map (fun kv => (kV kv.1, kv.2)) ∧ kvs.length ≤ 15 ∧ Q (.ref p) (upd H2 p (.dK (mergeK [] kvs)))) : tDisp trs σ H Q := h
theorem r_pcons {r : List (TE × TE)} {Q : List (V × V) → Hp → Prop} (h : ta σ H fun x H1 => tb σ H1 fun y H2 => tPairs r σ H2 fun ps H3 => Q ((x, y) :: ps) H3) : tPairs ((ta, tb) :: r) σ H Q := h
theorem r_pnil {Q : List (V × V) → Hp → Prop} (h : Q [] H) : tPairs [] σ H Q := h
theorem r_slS {z : Str} {lo hi : Option Int} (hz : z.length ≤ sizeLine) (q : Q (.str (cutS z lo hi)) H) : rSlS (.str z) lo hi H Q := ⟨z, rfl, hz, q⟩
theorem r_dg1 {td ty : TE} (h : td σ H fun x H1 => ∃ a, x = .ref a ∧ IsD H1 a ∧ ty σ H1 fun y H2 => ∃ o, DGet H2 a y o ∧ Q (o.getD .non) H2) : tDGet1 td ty σ H Q := h
theorem r_dg2 {td ty tx : TE} (h : td σ H fun x H1 => ∃ a, x = .ref a ∧ IsD H1 a ∧ ty σ H1 fun y H2 => tx σ H2 fun z H3 => DGet2G a y z H3 Q) : tDGet2 td ty tx σ H Q := h
theorem r_dp1 {td ty : TE} (h : td σ H fun x H1 => ∃ a, x = .ref a ∧ IsD H1 a ∧ ty σ H1 fun y H2 => DPopG a y H2 Q) : tDPop1 td ty σ H Q := h
theorem r_daug {td ty ty2 : TE} {rd : V → V → Hp → VK → Prop} (h : td σ H fun x H1 => ty σ H1 fun y H2 => DAugG x y H2 fun a v => ty2 σ H2 fun y2 H3 => rd v y2 H3 fun z H4 => ∃ H5, DPut H4 a y z H5 ∧ nx σ H5) : sDAug td ty ty2 rd ⟨nx, rt, bk, ct⟩ σ H := h
theorem r_dput {td ty : TE} {tz : TE} (h : tz σ H fun v H1 => td σ H1 fun x H2 => ty σ H2 fun y H3 => ∃ a H4, x = .ref a ∧ DPut H3 a y v H4 ∧ nx σ H4) : sDPut td ty tz ⟨nx, rt, bk, ct⟩ σ H := h
theorem r_dki {R : Option V → Prop} {a : Addr} {kvs : List (Key × V)} {k : Int} (e : H a = some (.dK kvs)) (h : R (valV kvs (.inl k))) : ∃ b o, V.ref a = .ref b ∧ DGet H b (.int k) o ∧ R o := ⟨a, _, rfl, DGet.k (k := .inl k) e, h⟩
theorem r_gki {R : V → Prop} {a : Addr} {kvs : List (Key × V)} {k : Int} {v : V} (e : H a = some (.dK kvs)) (e2 : valV kvs (.inl k) = some v) (h : R v) : ∃ b v, V.ref a = .ref b ∧ DGet H b (.int k) (some v) ∧ R v := ⟨a, v, rfl, e2 ▸ DGet.k (k := .inl k) e, h⟩
theorem r_pki {R : Hp → Prop} {a : Addr} {kvs : List (Key × V)} {k : Int} {v : V} (e : H a = some (.dK kvs)) (hl : kvs.length < sizeLine) (h : R (upd H a (.dK (putK kvs (.inl k) v)))) : ∃ b H', V.ref a = .ref b ∧ DPut H b (.int k) v H' ∧ R H' := ⟨a, _, rfl, DPut.k (k := .inl k) e hl, h⟩
theorem r_gkR {R : V → Prop} {a : Addr} {kvs : List (Key × V)} {k : Key} {v y : V} (e : Rd H a (.dK kvs)) (ey : y = kV k) (e2 : valV kvs k = some v) (h : R v) : ∃ b v, V.ref a = .ref b ∧ DGet H b y (some v) ∧ R v := ⟨a, v, rfl, by rw [ey, ← e2]; exact .inl ⟨kvs, k, e, rfl, rfl⟩, h⟩
theorem r_lockE {t : TE} {d : Addr} {u : HO} (e : H d = some u) (m : Mut (some u)) (h : ∀ od, t σ (upd H d (.frz od u)) fun v H' => H' d = some (.frz od u) ∧ Q v (upd H' d u)) : tLockE t σ H Q := ⟨d, u, e, m, h⟩
theorem r_dks {R : Option V → Prop} {a : Addr} {kvs : List (Key × V)} {k : Str} (e : H a = some (.dK kvs)) (h : R (valV kvs (.inr k))) : ∃ b o, V.ref a = .ref b ∧ DGet H b (.str k) o ∧ R o := ⟨a, _, rfl, DGet.k (k := .inr k) e, h⟩
theorem r_gks {R : V → Prop} {a : Addr} {kvs : List (Key × V)} {k : Str} {v : V} (e : H a = some (.dK kvs)) (e2 : valV kvs (.inr k) = some v) (h : R v) : ∃ b v, V.ref a = .ref b ∧ DGet H b (.str k) (some v) ∧ R v := ⟨a, v, rfl, e2 ▸ DGet.k (k := .inr k) e, h⟩
theorem r_pks {R : Hp → Prop} {a : Addr} {kvs : List (Key × V)} {k : Str} {v : V} (e : H a = some (.dK kvs)) (hl : kvs.length < sizeLine) (h : R (upd H a (.dK (putK kvs (.inr k) v)))) : ∃ b H', V.ref a = .ref b ∧ DPut H b (.str k) v H' ∧ R H' := ⟨a, _, rfl, DPut.k (k := .inr k) e hl, h⟩
theorem r_lenl {R : Nat → Prop} {p : Addr} {xs : List V} (e : H p = some (.lst xs)) (h : R xs.length) : ∃ x n, [V.ref p] = [x] ∧ LenV K x H n ∧ R n := ⟨_, _, rfl, .inl ⟨xs, .inl (.inl e), rfl⟩, h⟩
theorem r_lent {R : Nat → Prop} {p : Addr} {xs : List V} (e : H p = some (.tup xs)) (h : R xs.length) : ∃ x n, [V.ref p] = [x] ∧ LenV K x H n ∧ R n := ⟨_, _, rfl, .inr ⟨xs, .inl (.inl e), rfl⟩, h⟩
theorem r_lenS {R : Nat → Prop} {y : Str} (e : y.length ≤ sizeLine) (h : R y.length) : ∃ x n, [V.str y] = [x] ∧ LenV K x H n ∧ R n := ⟨_, _, rfl, ⟨e, rfl⟩, h⟩
theorem r_m1 {r : V → List V → Hp → VK → Prop} (ha : ta σ H fun x H1 => (∃ a, x = .str a) ∧ tb σ H1 fun y H2 => r x [y] H2 Q) : tM1 r ta tb σ H Q := ha
theorem r_isS {R : Prop} {a : Str} (h : R) : (∃ b, V.str a = .str b) ∧ R := ⟨⟨a, rfl⟩, h⟩
theorem r_yes {Q : Bool → Hp → Prop} (h : Q true H) : tYes σ H Q := h
theorem r_yes2 {A B : Hp → Prop} (h : A H) : tYes σ H (fun b H3 => if b = true then A H3 else B H3) := by
  show (if true = true then A H else B H)
  rw [if_pos rfl]
  exact h
theorem r_ite {b : Bool} {A B : Prop} (h1 : b = true → A) (h2 : b = false → B) : if b = true then A else B := by
  cases b with
  | true => exact (if_pos rfl).mpr (h1 rfl)
  | false => exact (if_neg Bool.false_ne_true).mpr (h2 rfl)
theorem r_itT {b : Bool} {A B : Prop} (e : b = true) (h : A) : if b = true then A else B := by rw [if_pos e]; exact h
theorem r_itF {b : Bool} {A B : Prop} (e : b = false) (h : B) : if b = true then A else B := by rw [e]; exact (if_neg Bool.false_ne_true).mpr h
theorem r_ifT {A B : Prop} (h : A) : if true = true then A else B := r_itT rfl h
theorem r_ifF {A B : Prop} (h : B) : if false = true then A else B := r_itF rfl h
theorem r_ifnT {A B : Prop} (h : B) : if (!true) = true then A else B := r_itF rfl h
theorem r_ifnF {A B : Prop} (h : A) : if (!false) = true then A else B := r_itT rfl h
theorem r_isiS {z : Str} (q : Q (.bl true) H) : rIsi K [.str z, .ty "str"] H Q := r_isi (.base (.str z)) (by decide) q
theorem r_isiI {z : Int} (q : Q (.bl true) H) : rIsi K [.int z, .ty "int"] H Q := r_isi (.base (.int z)) (by decide) q
theorem r_isiBl {z : Bool} (q : Q (.bl true) H) : rIsi K [.bl z, .ty "bool"] H Q := r_isi (.base (.bl z)) (by decide) q
theorem r_isiB {z : Int} (q : Q (.bl false) H) : rIsi K [.int z, .ty "bool"] H Q := r_isi (.base (.int z)) (by decide) q
theorem r_eqI {a b : Int} (h : Q (.bl (decide (a = b))) H) : rEq (.int a) (.int b) H Q := ⟨rfl, by
  rw [show decide (V.int a = V.int b) = decide (a = b) from decide_eq_decide.mpr ⟨fun h => V.int.inj h, fun h => by rw [h]⟩]
  exact h⟩
theorem r_neI {a b : Int} (h : Q (.bl (!decide (a = b))) H) : rNe (.int a) (.int b) H Q := ⟨rfl, by
  rw [show decide (V.int a = V.int b) = decide (a = b) from decide_eq_decide.mpr ⟨fun h => V.int.inj h, fun h => by rw [h]⟩]
  exact h⟩
theorem r_eqS {a b : Str} (h : Q (.bl (decide (a = b))) H) : rEq (.str a) (.str b) H Q := ⟨rfl, by
  rw [show decide (V.str a = V.str b) = decide (a = b) from decide_eq_decide.mpr ⟨fun h => V.str.inj h, fun h => by rw [h]⟩]
  exact h⟩
theorem r_neS {a b : Str} (h : Q (.bl (!decide (a = b))) H) : rNe (.str a) (.str b) H Q := ⟨rfl, by
  rw [show decide (V.str a = V.str b) = decide (a = b) from decide_eq_decide.mpr ⟨fun h => V.str.inj h, fun h => by rw [h]⟩]
  exact h⟩
theorem r_isT {b : Bool} (h : Q (.bl b) H) : rIsB (.bl b) (.bl true) H Q := ⟨b, true, rfl, rfl, by cases b <;> exact h⟩
theorem r_isF {b : Bool} (h : Q (.bl (!b)) H) : rIsB (.bl b) (.bl false) H Q := ⟨b, false, rfl, rfl, by cases b <;> exact h⟩
theorem r_ntT {b : Bool} (h : Q (.bl (!b)) H) : rNotB (.bl b) (.bl true) H Q := ⟨b, true, rfl, rfl, by cases b <;> exact h⟩
theorem r_ntF {b : Bool} (h : Q (.bl b) H) : rNotB (.bl b) (.bl false) H Q := ⟨b, false, rfl, rfl, by cases b <;> exact h⟩
/-! loops -/
def ForL (J : It) (g : TG) (tb : TS) (nx : L2.St → Hp → Prop) (rt : VK) (σ : L2.St) (H : Hp) : Prop := ∃ W : Nat → Nat → L2.St → Hp → Prop, (∃ m, W 0 m σ H) ∧ ∀ i m σ H, W i m σ H →
  (J.stop i H ∧ nx σ H) ∨ (J.go i H ∧ ∃ N : L2.St → Hp → Prop, (∀ σ' H', N σ' H' → ∃ m', m' < m ∧ W (i + 1) m' σ' H') ∧ ∀ x H', J.yld i H x H' → g x σ H' fun σ2 H2 => tb ⟨N, rt, nx, N⟩ σ2 H2)
theorem r_for {wi : TI} {tb : TS} (h : wi σ H fun J H1 => ForL J g tb nx rt σ H1) : tFor wi g tb ⟨nx, rt, bk, ct⟩ σ H := h
theorem r_rng1 {R : It → Hp → Prop} (h : tl σ H fun vs H1 => ∃ j : Int, vs = [.int j] ∧ -(2 ^ 62) ≤ j ∧ j < 2 ^ 62 ∧ R (Itr 0 j.toNat) H1) : iRng1 tl σ H R := h
theorem r_rngv {R : Int → Prop} {n : Int} (h0 : -1000000 ≤ n) (h1 : n ≤ 1000000) (h : R n) : ∃ j : Int, [V.int n] = [.int j] ∧ -(2 ^ 62) ≤ j ∧ j < 2 ^ 62 ∧ R j := ⟨n, rfl, by omega, by omega, h⟩
theorem r_rng2 {R : It → Hp → Prop} (h : tl σ H fun vs H1 => ∃ i j : Int, vs = [.int i, .int j] ∧ (-(2 ^ 62) ≤ i ∧ i < 2 ^ 62 ∧ -(2 ^ 62) ≤ j ∧ j < 2 ^ 62) ∧ R (Itr i (j - i).toNat) H1) : iRng2 tl σ H R := h
theorem r_rngw {R : Int → Int → Prop} {n m : Int} (h0 : -1000000 ≤ n) (h1 : n ≤ 1000000) (h2 : -1000000 ≤ m) (h3 : m ≤ 1000000) (h : R n m) : ∃ i j : Int, [V.int n, V.int m] = [.int i, .int j] ∧ (-(2 ^ 62) ≤ i ∧ i < 2 ^ 62 ∧ -(2 ^ 62) ≤ j ∧ j < 2 ^ 62) ∧ R i j := ⟨n, m, rfl, by omega, h⟩
theorem r_rng3 {R : It → Hp → Prop} (h : tl σ H fun vs H1 => ∃ (i j c : Int) (n : Nat), vs = [.int i, .int j, .int c] ∧ RgC i j c n ∧ R (Itc i c n) H1) : iRng3 tl σ H R := h
theorem L_range {lo : Int} {n : Nat} {tb : TS} (Pv : Nat → L2.St → Hp → Prop) (h0 : Pv 0 σ H)
    (hs : ∀ i σ H, i < n → Pv i σ H → g (.int (lo + i)) σ H fun σ2 H2 => tb ⟨Pv (i + 1), rt, nx, Pv (i + 1)⟩ σ2 H2) (hd : ∀ σ H, Pv n σ H → nx σ H) : ForL (Itr lo n) g tb nx rt σ H :=
  for_range (D := ⟨nx, rt, nx, nx⟩) Pv h0 hs hd
theorem L_list {a : Addr} {xs : List V} {tb : TS} (Pv : Nat → L2.St → Hp → Prop) (h0 : Pv 0 σ H) (hl : ∀ i σ H, i ≤ xs.length → Pv i σ H → SqL K H a xs)
    (hs : ∀ i x σ H, xs[i]? = some x → Pv i σ H → g x σ H fun σ2 H2 => tb ⟨Pv (i + 1), rt, nx, Pv (i + 1)⟩ σ2 H2) (hd : ∀ σ H, Pv xs.length σ H → nx σ H) : ForL (Itl K a) g tb nx rt σ H :=
  for_list (D := ⟨nx, rt, nx, nx⟩) Pv h0 hl hs hd
theorem r_ilst {R : It → Hp → Prop} (h : te σ H fun x H1 => ∃ a, x = .ref a ∧ (∃ xs, SqL K H1 a xs) ∧ R (Itl K a) H1) : iList K te σ H R := h
theorem r_ilv {R : Addr → Prop} {a : Addr} {xs : List V} (hs : SqL K H a xs) (h : R a) : ∃ b, V.ref a = .ref b ∧ (∃ xs, SqL K H b xs) ∧ R b := ⟨a, rfl, ⟨xs, hs⟩, h⟩
theorem r_ilw {R : Addr → Prop} {a : Addr} {xs : List V} (hs : H a = some (.lst xs)) (h : R a) : ∃ b, V.ref a = .ref b ∧ (∃ xs, SqL K H b xs) ∧ R b := ⟨a, rfl, ⟨xs, .inl (.inl hs)⟩, h⟩
theorem r_ienum {R : It → Hp → Prop} (h : tl σ H fun vs H1 => ∃ a xs, vs = [.ref a] ∧ SqL K H1 a xs ∧ R (Ite K a) H1) : iEnum K tl σ H R := h
theorem r_irev {R : It → Hp → Prop} (h : tl σ H fun vs H1 => ∃ (a : Addr) (xs : List V), vs = [.ref a] ∧ SqL K H1 a xs ∧ R (Itv K a xs.length) H1) : iRev K tl σ H R := h
theorem r_itup {R : It → Hp → Prop} (h : te σ H fun x H1 => ∃ a, x = .ref a ∧ (∃ xs, SqT K H1 a xs) ∧ R (Itt K a) H1) : iTup K te σ H R := h
theorem r_ikeys {R : It → Hp → Prop} (h : te σ H fun x H1 => ∃ d o, x = .ref d ∧ ((∃ kvs, H1 d = some (.frz o (.dK kvs)) ∧ R (Itk d o kvs) H1) ∨ ∃ kvs, H1 d = some (.frz o (.dT kvs)) ∧ R (Itkt d o kvs) H1)) : iKeys te σ H R := h
theorem r_izip {R : It → Hp → Prop} (h : tl σ H fun vs H1 => ∃ a b xs ys, vs = [.ref a, .ref b] ∧ SqL K H1 a xs ∧ SqL K H1 b ys ∧ R (Itz K a b) H1) : iZip K tl σ H R := h
theorem r_istr {R : It → Hp → Prop} (h : te σ H fun v H1 => ∃ x, v = .str x ∧ R (Its x) H1) : iStr te σ H R := h
/-! while -/
def Wh (W : Nat → L2.St → Hp → Prop) (m : Nat) (tb : TS) (nx : L2.St → Hp → Prop) (rt : VK) (σ : L2.St) (H : Hp) : Prop :=
  ∃ N : L2.St → Hp → Prop, (∀ σ' H', N σ' H' → ∃ m', m' < m ∧ W m' σ' H') ∧ tb ⟨N, rt, nx, N⟩ σ H
theorem r_while {tb : TS} (W : Nat → L2.St → Hp → Prop) (m0 : Nat) (h0 : W m0 σ H) (hs : ∀ m σ H, W m σ H → tc σ H fun b H1 => if b = true then Wh W m tb nx rt σ H1 else nx σ H1) : tWhile tc tb ⟨nx, rt, bk, ct⟩ σ H :=
  ⟨W, ⟨m0, h0⟩, hs⟩
theorem r_wh {tb : TS} {W : Nat → L2.St → Hp → Prop} {m : Nat} (h : tb ⟨fun σ' H' => ∃ m', m' < m ∧ W m' σ' H', rt, nx, fun σ' H' => ∃ m', m' < m ∧ W m' σ' H'⟩ σ H) : Wh W m tb nx rt σ H := ⟨_, fun _ _ h => h, h⟩
/-! comprehensions -/
def LcL (J : It) (g : TG) (tt : TT) (te : TE) (vs : List Nat) (σ : L2.St) (H1 : Hp) (Q : VK) : Prop := ∀ D, H1 D = none → ∃ W : Nat → Nat → Hp → Prop, (∃ m, W 0 m (upd H1 D (.lst []))) ∧ ∀ i m H, W i m H →
  (J.stop i H ∧ Q (.ref D) H) ∨ (J.go i H ∧ ∃ Nx : Hp → Prop, (∀ H', Nx H' → ∃ m', m' < m ∧ W (i + 1) m' H') ∧ ∀ x H', J.yld i H x H' → g x (wipe σ vs) H' fun σ2 H2 => wipe σ2 vs = wipe σ vs ∧ tt σ2 H2 fun b H3 =>
    if b = true then te σ2 H3 fun y H4 => ∃ acc, H4 D = some (.lst acc) ∧ acc.length < sizeLine ∧ Nx (upd H4 D (.lst (acc ++ [y]))) else Nx H3)
theorem r_lc {wi : TI} {vs : List Nat} (h : wi σ H fun J H1 => LcL J g tt te vs σ H1 Q) : tLc wi g tt te vs σ H Q := h
theorem C_range {lo : Int} {n : Nat} {vs : List Nat} (Pv : Addr → Nat → Hp → Prop) (h0 : ∀ D, H D = none → Pv D 0 (upd H D (.lst [])))
    (hs : ∀ D i H', i < n → Pv D i H' → g (.int (lo + i)) (wipe σ vs) H' fun σ2 H2 => wipe σ2 vs = wipe σ vs ∧ tt σ2 H2 fun b H3 =>
      if b = true then te σ2 H3 fun y H4 => ∃ acc, H4 D = some (.lst acc) ∧ acc.length < sizeLine ∧ Pv D (i + 1) (upd H4 D (.lst (acc ++ [y]))) else Pv D (i + 1) H3) (hd : ∀ D H', H D = none → Pv D n H' → Q (.ref D) H') : LcL (Itr lo n) g tt te vs σ H Q :=
  fun D hD => lc_range (Pv D) (h0 D hD) (hs D) (fun H' => hd D H' hD)
theorem C_list {a : Addr} {xs : List V} {vs : List Nat} (Pv : Addr → Nat → Hp → Prop) (h0 : ∀ D, H D = none → Pv D 0 (upd H D (.lst []))) (hl : ∀ D i H, i ≤ xs.length → Pv D i H → SqL K H a xs)
    (hs : ∀ D i x H', xs[i]? = some x → Pv D i H' → g x (wipe σ vs) H' fun σ2 H2 => wipe σ2 vs = wipe σ vs ∧ tt σ2 H2 fun b H3 =>
      if b = true then te σ2 H3 fun y H4 => ∃ acc, H4 D = some (.lst acc) ∧ acc.length < sizeLine ∧ Pv D (i + 1) (upd H4 D (.lst (acc ++ [y]))) else Pv D (i + 1) H3) (hd : ∀ D H', H D = none → Pv D xs.length H' → Q (.ref D) H') : LcL (Itl K a) g tt te vs σ H Q :=
  fun D hD => lc_list (K := K) (a := a) (xs := xs) (Pv D) (h0 D hD) (hl D) (hs D) (fun H' => hd D H' hD)
/-- a for, a comprehension over what is walked as w says -/
theorem L_it {J : It} {n : Nat} {Gd : Hp → Prop} {Y : Nat → Hp → V → Hp → Prop} (w : L2.Walk J n Gd Y) {tb : TS} (Pv : Nat → L2.St → Hp → Prop) (h0 : Pv 0 σ H) (hG : ∀ i σ H, i ≤ n → Pv i σ H → Gd H)
    (hs : ∀ i x σ H H', i < n → Pv i σ H → Y i H x H' → g x σ H' fun σ2 H2 => tb ⟨Pv (i + 1), rt, nx, Pv (i + 1)⟩ σ2 H2) (hd : ∀ σ H, Pv n σ H → nx σ H) : ForL J g tb nx rt σ H :=
  for_it w (D := ⟨nx, rt, nx, nx⟩) Pv h0 hG hs hd
theorem C_it {J : It} {n : Nat} {Gd : Hp → Prop} {Y : Nat → Hp → V → Hp → Prop} (w : L2.Walk J n Gd Y) {vs : List Nat} (Pv : Addr → Nat → Hp → Prop) (h0 : ∀ D, H D = none → Pv D 0 (upd H D (.lst []))) (hG : ∀ D i H, i ≤ n → Pv D i H → Gd H)
    (hs : ∀ D i x H1 H', i < n → Pv D i H1 → Y i H1 x H' → g x (wipe σ vs) H' fun σ2 H2 => wipe σ2 vs = wipe σ vs ∧ tt σ2 H2 fun b H3 =>
      if b = true then te σ2 H3 fun y H4 => ∃ acc, H4 D = some (.lst acc) ∧ acc.length < sizeLine ∧ Pv D (i + 1) (upd H4 D (.lst (acc ++ [y]))) else Pv D (i + 1) H3) (hd : ∀ D H', H D = none → Pv D n H' → Q (.ref D) H') : LcL J g tt te vs σ H Q :=
  fun D hD => lc_it w (Pv D) (h0 D hD) (hG D) (hs D) (fun H' => hd D H' hD)
theorem r_wip {vs : List Nat} {σ2 : L2.St} {B : Prop} (e : wipe σ2 vs = wipe σ vs) (h : B) : wipe σ2 vs = wipe σ vs ∧ B := ⟨e, h⟩
theorem r_d {c A B : Prop} [Decidable c] (h1 : c → A) (h2 : ¬ c → B) : if decide c = true then A else B := r_ite (fun h => h1 (of_decide_eq_true h)) (fun h => h2 (of_decide_eq_false h))
theorem r_nd {c A B : Prop} [Decidable c] (h1 : ¬ c → A) (h2 : c → B) : if (!decide c) = true then A else B := r_ite (fun h => h1 (of_decide_eq_false (by simpa using h))) (fun h => h2 (of_decide_eq_true (by simpa using h)))
theorem mulL {a b : Int} (h1 : -(2 ^ 64) < a) (h2 : a < 2 ^ 64) : CMul a b := .inl ⟨h1, h2⟩
theorem mulR {a b : Int} (h1 : -(2 ^ 64) < b) (h2 : b < 2 ^ 64) : CMul a b := .inr ⟨h1, h2⟩
theorem powS {a b : Int} (h0 : 0 ≤ b) (h1 : b ≤ 1000000) (h2 : a.natAbs < 2 ^ 64) : CPow a b := ⟨h0, h1, h2⟩
theorem divS {a b : Int} (h0 : 0 < b) (h1 : b.natAbs < 2 ^ 220) : CDivW a b := wide_div h0 h1 (by decide) (by decide)
end
theorem dint' {a b : Int} : decide (V.int a = V.int b) = decide (a = b) := decide_eq_decide.mpr ⟨fun h => V.int.inj h, fun h => by rw [h]⟩
theorem dec_s {a b : Str} : decide (a = b) = (a == b) := by by_cases h : a = b <;> simp [h]
theorem bits250 {a : Int} (h1 : -(2 ^ 250) < a) (h2 : a < 2 ^ 250) : a.natAbs < 2 ^ 250 := by
  have e : (2 : Int) ^ 250 = ((2 ^ 250 : Nat) : Int) := by decide +kernel
  rw [e] at h1 h2
  generalize (2 : Nat) ^ 250 = z at h1 h2 ⊢
  omega
theorem mulWW {a b : Int} (h1 : -1809251394333065553493296640760748560207343510400633813116524750123642650624 < a) (h2 : a < 1809251394333065553493296640760748560207343510400633813116524750123642650624) (h3 : -1809251394333065553493296640760748560207343510400633813116524750123642650624 < b) (h4 : b < 1809251394333065553493296640760748560207343510400633813116524750123642650624) : CMulW a b :=
  wide_mul (a := 250) (b := 250) (bits250 h1 h2) (bits250 h3 h4) (by decide) (by decide) (by decide)
/-- a power of a number of at most 250 bits -/
def CPowW (i j : Int) : Prop := 0 ≤ j ∧ j ≤ 1000 ∧ i.natAbs < 2 ^ 250
theorem op_powW {X : Cx} : OpR X (binaryOp .Pow) (rI CPowW fun i j => .int (i ^ j.toNat)) := opI fun i j _ _ _ _ _ hc q => by
  obtain ⟨h1, h2, h3⟩ := hc
  refine PyProof.Rows.pow_int h1 ?_ q
  have b := PyProof.Rows.intBits_le h3
  have m : (Builtin.Int.intBits i : Int) * j ≤ 250 * j := Int.mul_le_mul_of_nonneg_right (by omega) h1
  omega
theorem powWW {a b : Int} (h0 : 0 ≤ b) (h9 : b ≤ 1000) (h1 : -1809251394333065553493296640760748560207343510400633813116524750123642650624 < a) (h2 : a < 1809251394333065553493296640760748560207343510400633813116524750123642650624) : CPowW a b := ⟨h0, h9, bits250 h1 h2⟩
theorem hu65_of {A : Around} {k : Nat} (hr : Room k A) : A.units + 65 < cLine := by
  have := hr.un
  omega
theorem sz {n : Nat} (h : n ≤ 100000) : n ≤ sizeLine := Nat.le_trans h (by decide)
theorem szl {n : Nat} (h : n < 100000) : n < sizeLine := Nat.lt_of_lt_of_le h (by decide)
theorem szb {n : Nat} (h : n ≤ 16000000) : n ≤ sizeLine := Nat.le_trans h (by decide)
theorem szlb {n : Nat} (h : n < 16000000) : n < sizeLine := Nat.lt_of_lt_of_le h (by decide)
/-! ### heaps -/
/-- all that was tracked but at p is as it was -/
def But (p : Addr) (H H' : Hp) : Prop := ∀ b o, H b = some o → b ≠ p → H' b = some o
theorem But.refl {p : Addr} {H : Hp} : But p H H := fun _ _ h _ => h
theorem But.trans {p : Addr} {H H1 H2 : Hp} (a : But p H H1) (b : But p H1 H2) : But p H H2 := fun c o h n => b c o (a c o h n) n
theorem But.of {p : Addr} {H H' : Hp} (s : Same H H') : But p H H' := fun b o h _ => s b o h
theorem But.upd {p : Addr} {H : Hp} {o : HO} : But p H (upd H p o) := fun b u h n => by rw [upd_ne n]; exact h
theorem But.upd' {p q : Addr} {H H' : Hp} {o : HO} (h : But p H H') (n : H q = none) : But p H (L2.upd H' q o) := fun b u e k => by
  rw [upd_ne (ne_of_none e n)]
  exact h b u e k
theorem But.back1 {p : Addr} {H H' : Hp} {u : HO} (h : But p H H') (e : H p = some u) : Same H (L2.upd H' p u) := fun b o eb => by
  by_cases z : b = p
  · rw [z] at eb ⊢
    rw [L2.upd_same, ← eb, e]
  · rw [upd_ne z]
    exact h b o eb z
theorem atI_last {xs : List V} {v : V} : atI (xs ++ [v]) (-1) = some v := by
  have l : (xs ++ [v]).length = xs.length + 1 := by simp
  unfold atI ixN
  rw [l, if_neg (by decide), if_pos (by omega)]
  show (xs ++ [v])[((-1 : Int) + ((xs.length + 1 : Nat) : Int)).toNat]? = some v
  have : ((-1 : Int) + ((xs.length + 1 : Nat) : Int)).toNat = xs.length := by omega
  rw [this, List.getElem?_append_right (Nat.le_refl _), Nat.sub_self]
  rfl
theorem But.free {p q : Addr} {H H' : Hp} (b : But p H H') (hq : H' q = none) (hp' : H' p ≠ none) : H q = none := by
  cases e : H q with
  | none => rfl
  | some u =>
    by_cases z : q = p
    · rw [z] at hq
      exact absurd hq hp'
    · rw [b q u e z] at hq
      cases hq
theorem same_new {H : Hp} {p : Addr} {o : HO} (h : H p = none) : Same H (upd H p o) := fun b x e => by
  rw [upd_ne (ne_of_none e h)]
  exact e
theorem Same.upd' {q : Addr} {H H' : Hp} {o : HO} (h : Same H H') (n : H q = none) : Same H (L2.upd H' q o) := fun b u e => by
  rw [upd_ne (ne_of_none e n)]
  exact h b u e
/-- what is new since H may be changed -/
theorem Same.own {q : Addr} {H H' : Hp} {o : HO} (h : Same H H') (n : H q = none) : Same H (L2.upd H' q o) := Same.upd' h n
theorem ne_at {H : Hp} {a b : Addr} {o u : HO} (h : H a = some o) (h' : H b = some u) (n : o ≠ u) : a ≠ b := by
  intro e
  subst e
  rw [h] at h'
  exact n (Option.some.inj h')
theorem Same.free' {H H' : Hp} {q : Addr} (h : Same H H') (n : H' q = none) : H q = none := h.free n
theorem But.back {p : Addr} {H H1 H2 : Hp} (s : Same H H1) (n : H p = none) (b : But p H1 H2) : Same H H2 := fun c o e => b c o (s c o e) (ne_of_none e n)
/-- the bag: three whole numbers; the second one stays below 2 ^ 62, the third one counts -/
def BagAt (H : Hp) (p : Addr) (n : Nat) : Prop := ∃ a b c : Int, H p = some (.lst [.int a, .int b, .int c]) ∧ 0 ≤ b ∧ b < 4611686018427387904 ∧ 0 ≤ c ∧ c ≤ n
theorem BagAt.mono {H : Hp} {p : Addr} {n m : Nat} (h : BagAt H p n) (l : n ≤ m) : BagAt H p m := by
  obtain ⟨a, b, c, e, h1, h2, h3, h4⟩ := h
  exact ⟨a, b, c, e, h1, h2, h3, by omega⟩
theorem BagAt.there {H : Hp} {p : Addr} {n : Nat} (h : BagAt H p n) : H p ≠ none := by
  obtain ⟨a, b, c, e, _⟩ := h
  rw [e]
  simp
theorem BagAt.same {H H' : Hp} {p : Addr} {n : Nat} (h : BagAt H p n) (s : Same H H') : BagAt H' p n := by
  obtain ⟨a, b, c, e, r⟩ := h
  exact ⟨a, b, c, s _ _ e, r⟩
theorem BagAt.upd {H : Hp} {p q : Addr} {n : Nat} {o : HO} (h : BagAt H p n) (hq : H q = none) : BagAt (upd H q o) p n := h.same (same_new hq)
/-- what stood at another address is the bag no more -/
theorem BagAt.ne {H : Hp} {p q : Addr} {n : Nat} (h : BagAt H p n) {xs : List V} (e : H q = some (.tup xs)) : q ≠ p := by
  intro z
  subst z
  obtain ⟨a, b, c, e', _⟩ := h
  rw [e] at e'
  cases e'
end G
local macro_rules | `(tactic| walk_at "r1") => `(tactic| first
  | with_reducible refine G.r_seq ?_ | with_reducible refine G.r_asg ?_ | ((with_reducible refine' G.r_name ?r_h ?_); (case r_h => (simp only [List.map_cons, List.map_nil, L2.wipe, List.set_cons_zero, List.set_cons_succ]; exact rfl))) | with_reducible refine G.r_ret ?_ | with_reducible refine G.r_if ?_
  | ((with_reducible refine' G.r_var ?r_h ?_); (case r_h => rfl)) | with_reducible refine G.r_c ?_ | with_reducible refine G.r_op ?_ | with_reducible refine G.r_i0 ?_
  | with_reducible refine G.r_cons ?_ | with_reducible refine G.r_nil ?_ | with_reducible refine G.r_cal ?_ | with_reducible refine G.r_calS ?_ | with_reducible refine G.r_raise ?_ | with_reducible refine G.r_try1 ?_ | with_reducible refine G.r_cb ?_ | with_reducible refine G.r_cbk ?_ | with_reducible refine G.r_chain ?_ | with_reducible refine G.r_meth ?_ | with_reducible refine G.r_methS ?_ | with_reducible refine G.r_make ?_ | with_reducible refine G.r_fld ?_ | with_reducible refine G.r_sfld ?_ | with_reducible refine G.r_test ?_ | with_reducible refine G.r_tB ?_
  | with_reducible refine G.r_bl ?_ | with_reducible refine G.r_next ?_ | with_reducible refine G.r_isT ?_ | with_reducible refine G.r_isF ?_ | with_reducible refine G.r_ntT ?_ | with_reducible refine G.r_ntF ?_ | with_reducible refine G.r_eqI ?_ | with_reducible refine G.r_neI ?_ | with_reducible refine G.r_eqS ?_ | with_reducible refine G.r_neS ?_ | ((with_reducible refine' G.r_eq ?r_h ?_); (case r_h => rfl)) | ((with_reducible refine' G.r_ne ?r_h ?_); (case r_h => rfl))
  | with_reducible refine G.r_u ?_ | with_reducible refine G.r_un ?_ | with_reducible refine G.r_and ?_ | with_reducible refine G.r_or ?_ | with_reducible refine G.r_not ?_ | with_reducible refine G.r_andV ?_ | with_reducible refine G.r_orV ?_
  | with_reducible refine G.r_ifT ?_ | with_reducible refine G.r_ifF ?_ | with_reducible refine G.r_ifnT ?_ | with_reducible refine G.r_ifnF ?_ | with_reducible refine G.r_isiS ?_ | with_reducible refine G.r_isiI ?_ | with_reducible refine G.r_isiB ?_ | with_reducible refine G.r_isiBl ?_
  | with_reducible refine G.r_notV ?_ | with_reducible refine G.r_ifE ?_ | with_reducible refine G.r_tup ?_ | with_reducible refine G.r_lst ?_ | with_reducible refine G.r_drop ?_ | with_reducible refine G.r_retN ?_
  | with_reducible refine G.r_brk ?_ | with_reducible refine G.r_cont ?_ | with_reducible refine G.r_sub ?_ | with_reducible refine G.r_gcons ?_ | with_reducible refine G.r_gnil ?_ | with_reducible refine G.r_bm ?_ | with_reducible refine G.r_m1 ?_ | with_reducible refine G.r_isS ?_ | with_reducible refine G.r_bm0 ?_
  | with_reducible refine G.r_slc ?_ | with_reducible refine G.r_nop ?_ | with_reducible refine G.r_part ?_ | with_reducible refine G.r_int ?_ | with_reducible refine G.r_yes2 ?_ | with_reducible refine G.r_revL ?_ | with_reducible refine G.r_dget ?_ | with_reducible refine G.r_din ?_ | with_reducible refine G.r_dnin ?_ | with_reducible refine G.r_dput ?_ | with_reducible refine G.r_dg1 ?_ | with_reducible refine G.r_dg2 ?_ | with_reducible refine G.r_dp1 ?_ | with_reducible refine G.r_daug ?_ | with_reducible refine G.r_yes ?_
  | with_reducible refine G.r_for ?_ | with_reducible refine G.r_rng1 ?_ | with_reducible refine G.r_rng2 ?_ | with_reducible refine G.r_rng3 ?_ | with_reducible refine G.r_ilst ?_ | with_reducible refine G.r_ienum ?_ | with_reducible refine G.r_irev ?_ | with_reducible refine G.r_itup ?_ | with_reducible refine G.r_ikeys ?_ | with_reducible refine G.r_istr ?_ | with_reducible refine G.r_izip ?_ | with_reducible refine G.r_lc ?_ | with_reducible refine G.r_wh ?_ | with_reducible refine G.r_pcons ?_ | with_reducible refine G.r_pnil ?_
  | ((with_reducible refine' G.r_rngv ?r_h ?r_e ?_); (case r_h => omega); (case r_e => omega))
  | ((with_reducible refine' G.r_wip ?r_h ?_); (case r_h => rfl))
  | ((with_reducible refine' G.r_ixl ?r_h ?r_e ?_); (case r_h => assumption); (case r_e => rfl))
  | ((with_reducible refine' G.r_ixt ?r_h ?r_e ?_); (case r_h => assumption); (case r_e => rfl))
  | ((with_reducible refine' G.r_gtup ?r_h ?r_e ?_); (case r_h => assumption); (case r_e => rfl))
  | ((with_reducible refine' G.r_i ?r_h ?_); (case r_h => first
      | (with_reducible exact G.mulL (by omega) (by omega)) | (with_reducible exact G.mulR (by omega) (by omega)) | (with_reducible exact G.mulR (by decide) (by decide)) | (with_reducible exact G.mulL (by decide) (by decide)) | (with_reducible exact G.powS (by omega) (by omega) (by omega)) | (with_reducible exact G.mulWW (by omega) (by omega) (by omega) (by omega)) | (with_reducible exact G.powWW (by omega) (by omega) (by omega) (by omega)) | (with_reducible exact G.divS (by omega) (by omega)) | (with_reducible exact G.divS (by assumption) (by assumption)) | (with_reducible assumption) | (show (0 : Int) < _; omega))))
local macro_rules | `(tactic| walk_at "rr") => `(tactic| repeat (walk_at "r1"))

namespace G
open PySem L2
/-! ### what kind of thing a value is -/
def kinds7 : List String := ["NoneType", "bool", "int", "str", "list", "tuple", "dict"]
theorem kit_tuple : ∀ T ∈ kinds7, kitB T "tuple" = some (T == "tuple") := by decide +kernel
theorem kit_list : ∀ T ∈ kinds7, kitB T "list" = some (T == "list") := by decide +kernel
theorem kit_str : ∀ T ∈ kinds7, kitB T "str" = some (T == "str") := by decide +kernel
theorem kit_bool : ∀ T ∈ kinds7, kitB T "bool" = some (T == "bool") := by decide +kernel
theorem kit_int : ∀ T ∈ kinds7, kitB T "int" = some (T == "int" || T == "bool") := by decide +kernel
theorem whole_of : ∀ T ∈ kinds7, ((T == "int" || T == "bool") && !(T == "bool")) = (T == "int") := by decide +kernel
section
variable {K : PySem.W.Frag} {H H' : Hp} {v : V} {t : Value}
theorem ty_tup {a : Addr} {xs : List V} (h : H a = some (.tup xs)) : TyX K H (.ref a) (.type "tuple") := .base (.tup h)
theorem ty_lst {a : Addr} {xs : List V} (h : H a = some (.lst xs)) : TyX K H (.ref a) (.type "list") := .base (.lst h)
theorem ty_dK {a : Addr} {xs : List (Key × V)} (h : H a = some (.dK xs)) : TyX K H (.ref a) (.type "dict") := .base (.dK h)
theorem ty_int {i : Int} : TyX K H (.int i) (.type "int") := .base (.int i)
theorem ty_str {i : Str} : TyX K H (.str i) (.type "str") := .base (.str i)
theorem ty_bl {i : Bool} : TyX K H (.bl i) (.type "bool") := .base (.bl i)
theorem ty_non : TyX K H .non (.type "NoneType") := .base .non
theorem TyOf.same (s : Same H H') (h : TyOf K H v t) : TyOf K H' v t := by
  cases h with
  | non => exact .non
  | bl x => exact .bl x
  | int x => exact .int x
  | str x => exact .str x
  | flt x => exact .flt x
  | lst e => exact .lst (s _ _ e)
  | frz e => exact .frz (s _ _ e)
  | tup e => exact .tup (s _ _ e)
  | dK e => exact .dK (s _ _ e)
  | dT e => exact .dT (s _ _ e)
  | ins e a b c d f => exact .ins (s _ _ e) a b c d f
theorem TyX.same (s : Same H H') (h : TyX K H v t) : TyX K H' v t := by
  cases h with
  | base h => exact .base (TyOf.same s h)
  | byt b => exact .byt b
  | set e => exact .set (s _ _ e)
  | kList e c => exact .kList e c
  | kTuple e c => exact .kTuple e c
  | kDict e c => exact .kDict e c
  | fTuple e => exact .fTuple (s _ _ e)
  | fDict e => exact .fDict (s _ _ e)
end
/-- v is something of one of the seven kinds -/
def Some7 (K : PySem.W.Frag) (H : Hp) (v : V) : Prop := ∃ T, TyX K H v (.type T) ∧ T ∈ kinds7
theorem Some7.same {K : PySem.W.Frag} {H H' : Hp} {v : V} (s : Same H H') (h : Some7 K H v) : Some7 K H' v := by
  obtain ⟨T, a, b⟩ := h
  exact ⟨T, TyX.same s a, b⟩
theorem any_non {K : PySem.W.Frag} {H : Hp} : Some7 K H .non := ⟨_, ty_non, by decide⟩
theorem any_bl {K : PySem.W.Frag} {H : Hp} {b : Bool} : Some7 K H (.bl b) := ⟨_, ty_bl, by decide⟩
theorem any_int {K : PySem.W.Frag} {H : Hp} {b : Int} : Some7 K H (.int b) := ⟨_, ty_int, by decide⟩
theorem any_str {K : PySem.W.Frag} {H : Hp} {b : Str} : Some7 K H (.str b) := ⟨_, ty_str, by decide⟩
theorem any_tup {K : PySem.W.Frag} {H : Hp} {a : Addr} {xs : List V} (h : H a = some (.tup xs)) : Some7 K H (.ref a) := ⟨_, ty_tup h, by decide⟩
theorem any_lst {K : PySem.W.Frag} {H : Hp} {a : Addr} {xs : List V} (h : H a = some (.lst xs)) : Some7 K H (.ref a) := ⟨_, ty_lst h, by decide⟩
theorem any_dK {K : PySem.W.Frag} {H : Hp} {a : Addr} {xs : List (Key × V)} (h : H a = some (.dK xs)) : Some7 K H (.ref a) := ⟨_, ty_dK h, by decide⟩
/-- a worth by its word and number -/
def isW (s : Str) (n : Int) : Bool := s == "num" || ((s == "at" || s == "box" || s == "go") && decide (0 ≤ n))
/-- v is a thing, and b says whether it is a worth -/
inductive Th (K : PySem.W.Frag) (H : Hp) : V → Bool → Prop
  | other {v : V} {T : String} (h : TyX K H v (.type T)) (m : T ∈ kinds7) (n : (T == "tuple") = false) : Th K H v false
  | tupN {a : Addr} {xs : List V} (h : H a = some (.tup xs)) (n : xs.length ≠ 2) : Th K H (.ref a) false
  | tupX {a : Addr} {x y : V} {T : String} (h : H a = some (.tup [x, y])) (hx : TyX K H x (.type T)) (m : T ∈ kinds7) (n : (T == "str") = false) : Th K H (.ref a) false
  | tupY {a : Addr} {s : Str} {y : V} {T : String} (h : H a = some (.tup [.str s, y])) (hy : TyX K H y (.type T)) (m : T ∈ kinds7) (n : (T == "int") = false) : Th K H (.ref a) false
  | tupW {a : Addr} {s : Str} {n : Int} (h : H a = some (.tup [.str s, .int n])) : Th K H (.ref a) (isW s n)
/-- only a whole number is of the kind int -/
theorem ty_is_int' {K : PySem.W.Frag} {H : Hp} {v : V} {t : Value} (h : TyX K H v t) (e : t = .type "int") : ∃ n, v = .int n := by
  cases h with
  | base h =>
    cases h with
    | int i => exact ⟨i, rfl⟩
    | _ => first | (cases e; done) | (injection e with e; exact absurd e (by decide))
  | _ => first | (cases e; done) | (injection e with e; exact absurd e (by decide))
theorem ty_is_str' {K : PySem.W.Frag} {H : Hp} {v : V} {t : Value} (h : TyX K H v t) (e : t = .type "str") : ∃ n, v = .str n := by
  cases h with
  | base h =>
    cases h with
    | str i => exact ⟨i, rfl⟩
    | _ => first | (cases e; done) | (injection e with e; exact absurd e (by decide))
  | _ => first | (cases e; done) | (injection e with e; exact absurd e (by decide))
theorem ty_is_int {K : PySem.W.Frag} {H : Hp} {v : V} (h : TyX K H v (.type "int")) : ∃ n, v = .int n := ty_is_int' h rfl
theorem ty_is_str {K : PySem.W.Frag} {H : Hp} {v : V} (h : TyX K H v (.type "str")) : ∃ n, v = .str n := ty_is_str' h rfl
/-- any tuple of two, of any kinds, is a thing -/
theorem Th.pair {K : PySem.W.Frag} {H : Hp} {a : Addr} {x y : V} (h : H a = some (.tup [x, y])) (hx : Some7 K H x) (hy : Some7 K H y) : ∃ b, Th K H (.ref a) b := by
  obtain ⟨T, tx, mx⟩ := hx
  obtain ⟨U, tu, mu⟩ := hy
  cases e : T == "str" with
  | false => exact ⟨_, .tupX h tx mx e⟩
  | true =>
    have e' := eq_of_beq e
    subst e'
    obtain ⟨s, rfl⟩ := ty_is_str tx
    cases e2 : U == "int" with
    | false => exact ⟨_, .tupY h tu mu e2⟩
    | true =>
      have e' := eq_of_beq e2
      subst e'
      obtain ⟨n, rfl⟩ := ty_is_int tu
      exact ⟨_, .tupW h⟩
theorem atI_there {α : Type} {xs : List α} {i : Int} (h0 : 0 ≤ i) (h1 : i < xs.length) : ∃ c, atI xs i = some c := by
  obtain ⟨j, rfl⟩ : ∃ j : Nat, i = (j : Int) := ⟨i.toNat, by omega⟩
  have hj : j < xs.length := by omega
  exact ⟨xs[j], atI_nat (List.getElem?_eq_getElem hj)⟩
theorem r_ixS' {H : Hp} {Q : VK} {z : Str} {i : Int} (hz : z.length ≤ sizeLine) (h0 : 0 ≤ i) (h1 : i < z.length) (h : ∀ c, Q (.str ⟨#[c]⟩) H) : rIxS (.str z) (.int i) H Q := by
  obtain ⟨c, e⟩ : ∃ c, atI z.cps.toList i = some c := atI_there h0 (by rw [Array.length_toList]; exact h1)
  exact ⟨z, i, c, rfl, rfl, hz, e, h c⟩
theorem Th.same {K : PySem.W.Frag} {H H' : Hp} {v : V} {b : Bool} (s : Same H H') (h : Th K H v b) : Th K H' v b := by
  cases h with
  | other h m n => exact .other (TyX.same s h) m n
  | tupN h n => exact .tupN (s _ _ h) n
  | tupX h hx m n => exact .tupX (s _ _ h) (TyX.same s hx) m n
  | tupY h hy m n => exact .tupY (s _ _ h) (TyX.same s hy) m n
  | tupW h => exact .tupW (s _ _ h)
/-- one of the odd things: no tuple, or one of none or two -/
inductive Odd (K : PySem.W.Frag) (H : Hp) : V → Prop
  | other {v : V} {T : String} (h : TyX K H v (.type T)) (m : T ∈ kinds7) (n : (T == "tuple") = false) : Odd K H v
  | tup0 {a : Addr} (h : H a = some (.tup [])) : Odd K H (.ref a)
  | tup2 {a : Addr} {s : Str} {n : Int} (h : H a = some (.tup [.str s, .int n])) : Odd K H (.ref a)
theorem Odd.some7 {K : PySem.W.Frag} {H : Hp} {v : V} (h : Odd K H v) : Some7 K H v := by
  cases h with
  | other h m n => exact ⟨_, h, m⟩
  | tup0 h => exact any_tup h
  | tup2 h => exact any_tup h
theorem Odd.thing {K : PySem.W.Frag} {H : Hp} {v : V} (h : Odd K H v) : ∃ b, Th K H v b := by
  cases h with
  | other h m n => exact ⟨_, .other h m n⟩
  | tup0 h => exact ⟨_, .tupN h (by decide)⟩
  | tup2 h => exact ⟨_, .tupW h⟩
end G

namespace G
open PySem L2
/-! ### a dict of the module's top: texts to texts -/
def keyS : Value → Option Str
  | .str x _ => some x
  | _ => none
theorem keyS_of {v : Value} {x : Str} (h : keyS v = some x) : ∃ t, v = .str x t := by
  cases v with
  | str y t =>
    have e : y = x := Option.some.inj h
    exact ⟨t, by rw [e]⟩
  | _ => cases h
def pairsS (l : List DictEntry) : List (Option Str × Option Str) := l.map fun e => (keyS e.key, keyS e.val)
theorem find_pairs (z : Str) : ∀ {l : List DictEntry} {ks : List (Str × Str)}, pairsS l = ks.map (fun p => (some p.1, some p.2)) →
    (∃ r, (match l.find? (·.key.isStr z) with | some e => some (some e.val) | none => if l.any (·.refKey) then none else some none) = some r ∧ match ks.find? (fun p => decide (p.1 = z)) with | some p => ∃ t, r = some (.str p.2 t) | none => r = none) ∧ l.any (·.refKey) = false
  | [], [], _ => ⟨⟨none, rfl, rfl⟩, rfl⟩
  | [], _ :: _, h => by cases h
  | _ :: _, [], h => by cases h
  | e :: r, k :: ks, h => by
    have h1 : (keyS e.key, keyS e.val) :: pairsS r = (some k.1, some k.2) :: ks.map (fun p => (some p.1, some p.2)) := h
    injection h1 with h2 h3
    obtain ⟨h4, h5⟩ := Prod.mk.inj h2
    obtain ⟨t, h6⟩ := keyS_of h4
    obtain ⟨u, h7⟩ := keyS_of h5
    obtain ⟨⟨q, e1, e2⟩, e3⟩ := find_pairs z h3
    have rk : (e.refKey : Bool) = false := by
      unfold DictEntry.refKey
      rw [h6]
    have e4 : (e :: r).any (·.refKey) = false := by
      rw [List.any_cons, rk, e3]
      rfl
    refine ⟨?_, e4⟩
    by_cases c : k.1 = z
    · have i1 : e.key.isStr z = true := by
        rw [h6, ← c]
        simp [Value.isStr]
      refine ⟨some e.val, ?_, ?_⟩
      · rw [List.find?_cons, i1]
      · rw [List.find?_cons, decide_eq_true c]
        exact ⟨u, by rw [h7]⟩
    · have i1 : e.key.isStr z = false := by
        rw [h6]
        simp [Value.isStr, c]
      refine ⟨q, ?_, ?_⟩
      · rw [List.find?_cons, i1, List.any_cons, rk]
        exact e1
      · rw [List.find?_cons, decide_eq_false c]
        exact e2
theorem nsIn_pairs {K : PySem.W.Frag} {d : Addr} {es : Array DictEntry} {n : Nat} {ks : List (Str × Str)} (l : K.lookup d = some ⟨.type "dict", none, .dict es n, #[]⟩) (h : pairsS es.toList = ks.map (fun p => (some p.1, some p.2))) (z : Str) :
    ∃ r, PySem.W.nsIn K d z = some r ∧ match ks.find? (fun p => decide (p.1 = z)) with | some p => ∃ t, r = some (.str p.2 t) | none => r = none := by
  unfold PySem.W.nsIn
  rw [l]
  exact (find_pairs z h).1
def marks : List (Str × Str) := [("num", ""), ("at", "@"), ("box", "b"), ("go", "g")]
theorem marks_some (z : Str) : (marks.find? (fun p => decide (p.1 = z))).isSome = (z == "num" || (z == "at" || z == "box" || z == "go")) := by
  unfold marks
  by_cases h1 : z = "num"
  · subst h1
    rfl
  by_cases h2 : z = "at"
  · subst h2
    decide +kernel
  by_cases h3 : z = "box"
  · subst h3
    decide +kernel
  by_cases h4 : z = "go"
  · subst h4
    decide +kernel
  · have b : ∀ y : Str, ¬ z = y → decide (y = z) = false ∧ (z == y) = false := fun y h => ⟨decide_eq_false fun e => h e.symm, beq_eq_false_iff_ne.mpr h⟩
    simp only [List.find?_cons, (b _ h1).1, (b _ h2).1, (b _ h3).1, (b _ h4).1, (b _ h1).2, (b _ h2).2, (b _ h3).2, (b _ h4).2, List.find?_nil, Option.isSome_none, Bool.or_false]
end G

namespace G
open PySem L2
/-! ### worths, as they stand in the heap -/
abbrev Wo := Str × Int
def wv (w : Wo) : List V := [.str w.1, .int w.2]
/-- v is a tuple of w's text and number -/
def WoAt (H : Hp) (v : V) (w : Wo) : Prop := ∃ a, v = .ref a ∧ H a = some (.tup (wv w)) ∧ PyData.strOk w.1 = true
theorem WoAt.mk {H : Hp} {a : Addr} {s : Str} {n : Int} (h : H a = some (.tup [.str s, .int n])) (o : PyData.strOk s = true) : WoAt H (.ref a) (s, n) := ⟨a, rfl, h, o⟩
abbrev Wos (H : Hp) := Paired (WoAt H)
def wd (w : Wo) : PyData := .tuple [.str w.1, .int w.2]
section
variable {K : PySem.W.Frag} {H H' : Hp} {v : V} {w : Wo} {xs : List V} {ws : List Wo} {p : Addr} {n : Nat}
theorem WoAt.same (s : Same H H') (h : WoAt H v w) : WoAt H' v w := by
  obtain ⟨a, e, h, o⟩ := h
  exact ⟨a, e, s _ _ h, o⟩
theorem Wos.same (s : Same H H') (h : Wos H xs ws) : Wos H' xs ws := Paired.mapP h fun _ _ => WoAt.same s
theorem WoAt.but (b : But p H H') (B : BagAt H p n) (h : WoAt H v w) : WoAt H' v w := by
  obtain ⟨a, e, h, o⟩ := h
  exact ⟨a, e, b _ _ h (B.ne h), o⟩
theorem Wos.but (b : But p H H') (B : BagAt H p n) (h : Wos H xs ws) : Wos H' xs ws := Paired.mapP h fun _ _ => WoAt.but b B
/-- another list at l -/
theorem WoAt.upd {l : Addr} {o : HO} {ys : List V} (hl : H l = some (.lst ys)) (h : WoAt H v w) : WoAt (upd H l o) v w := by
  obtain ⟨a, e, h, k⟩ := h
  exact ⟨a, e, by rw [upd_ne (ne_of h hl (by intro q; cases q))]; exact h, k⟩
theorem Wos.upd {l : Addr} {o : HO} {ys : List V} (hl : H l = some (.lst ys)) (h : Wos H xs ws) : Wos (L2.upd H l o) xs ws := Paired.mapP h fun _ _ => WoAt.upd hl
theorem WoAt.dp (h : WoAt H v w) : Dp K H v (wd w) := by
  obtain ⟨a, rfl, h, _⟩ := h
  exact .tup (.inl (.inl h)) (.cons (.str _) (.cons (.int _) .nil))
theorem Wos.dp : ∀ {xs : List V} {ws : List Wo}, Wos H xs ws → DpAll K H xs (ws.map wd)
  | _, _, .nil => .nil
  | _, _, .cons a b => .cons a.dp (Wos.dp b)
theorem Wos.len : ∀ {xs : List V} {ws : List Wo}, Wos H xs ws → xs.length = ws.length
  | _, _, .nil => rfl
  | _, _, .cons _ b => by rw [List.length_cons, List.length_cons, Wos.len b]
theorem Wos.app {ys : List V} {us : List Wo} (h : Wos H xs ws) (g : Wos H ys us) : Wos H (xs ++ ys) (ws ++ us) := by
  induction h with
  | nil => exact g
  | cons a _ ih => exact .cons a ih
theorem Wos.one (h : WoAt H v w) : Wos H [v] [w] := .cons h .nil
theorem Wos.get : ∀ {xs : List V} {ws : List Wo} {i : Nat} {v : V}, Wos H xs ws → xs[i]? = some v → ∃ w, ws[i]? = some w ∧ WoAt H v w
  | _, _, _, _, .nil, e => by cases e
  | _, _, 0, _, .cons a _, e => ⟨_, rfl, by rw [← Option.some.inj e]; exact a⟩
  | _, _, i + 1, _, .cons _ b, e => Wos.get (i := i) b e
theorem Wos.at : ∀ {xs : List V} {ws : List Wo} {i : Nat} {w : Wo}, Wos H xs ws → ws[i]? = some w → ∃ v, xs[i]? = some v ∧ WoAt H v w
  | _, _, _, _, .nil, e => by cases e
  | _, _, 0, _, .cons a _, e => ⟨_, rfl, by rw [← Option.some.inj e]; exact a⟩
  | _, _, i + 1, _, .cons _ b, e => Wos.at (i := i) b e
theorem Wos.take : ∀ {xs : List V} {ws : List Wo} (n : Nat), Wos H xs ws → Wos H (xs.take n) (ws.take n)
  | _, _, 0, _ => .nil
  | _, _, _ + 1, .nil => .nil
  | _, _, n + 1, .cons a b => .cons a (Wos.take n b)
theorem Wos.drop : ∀ {xs : List V} {ws : List Wo} (n : Nat), Wos H xs ws → Wos H (xs.drop n) (ws.drop n)
  | _, _, 0, h => h
  | _, _, _ + 1, .nil => .nil
  | _, _, n + 1, .cons _ b => Wos.drop n b
theorem Wos.rev {xs : List V} {ws : List Wo} (h : Wos H xs ws) : Wos H xs.reverse ws.reverse := by
  induction h with
  | nil => exact .nil
  | cons a _ ih =>
    rw [List.reverse_cons, List.reverse_cons]
    exact ih.app (.one a)
theorem eqv_wd (a b : Wo) : PyData.eqv (wd a) (wd b) = decide (a = b) := by
  obtain ⟨x, i⟩ := a
  obtain ⟨y, j⟩ := b
  show (x == y && (i == j && true)) = _
  rw [Bool.eq_iff_iff]
  simp
theorem eqvAll_wds : ∀ a b : List Wo, PyData.eqvAll (a.map wd) (b.map wd) = decide (a = b)
  | [], [] => rfl
  | [], _ :: _ => rfl
  | _ :: _, [] => rfl
  | x :: r, y :: s => by
    show (PyData.eqv (wd x) (wd y) && PyData.eqvAll (r.map wd) (s.map wd)) = _
    rw [eqv_wd, eqvAll_wds r s, Bool.eq_iff_iff]
    simp
theorem eqv_wds (a b : List Wo) : PyData.eqv (.list (a.map wd)) (.list (b.map wd)) = decide (a = b) := eqvAll_wds a b
theorem WoAt.ok (h : WoAt H v w) : PyData.strOk w.1 = true := by
  obtain ⟨_, _, _, k⟩ := h
  exact k
theorem Wos.ok : ∀ {xs : List V} {ws : List Wo}, Wos H xs ws → ∀ w ∈ ws, PyData.strOk w.1 = true
  | _, _, .nil, _, h => by cases h
  | _, _, .cons a b, w, h => by
    rcases List.mem_cons.mp h with e | e
    · rw [e]
      exact a.ok
    · exact Wos.ok b w e
theorem shaped_wd {a : Wo} (h : PyData.strOk a.1 = true) : SeqAt.shaped (wd a) = true := by
  simp [SeqAt.shaped, wd, PyData.canLay0, PyData.canLayAll0, PyData.depth, PyData.depthAll, h]
theorem lay_wds : ∀ a : List Wo, (∀ w ∈ a, PyData.strOk w.1 = true) → PyData.canLayAll0 (a.map wd) = true ∧ PyData.depthAll (a.map wd) ≤ 1
  | [], _ => ⟨by simp [PyData.canLayAll0], by simp [PyData.depthAll]⟩
  | x :: r, h => by
    obtain ⟨h1, h2⟩ := lay_wds r fun w m => h w (List.mem_cons_of_mem _ m)
    constructor
    · simp [PyData.canLayAll0, wd, PyData.canLay0, h1, h x List.mem_cons_self]
    · have e : PyData.depthAll ((x :: r).map wd) = max 1 (PyData.depthAll (r.map wd)) := by
        simp [PyData.depthAll, wd, PyData.depth]
      rw [e]
      omega
theorem shaped_wds {a : List Wo} (h : ∀ w ∈ a, PyData.strOk w.1 = true) : SeqAt.shaped (.list (a.map wd)) = true := by
  obtain ⟨h1, h2⟩ := lay_wds a h
  simp [SeqAt.shaped, PyData.canLay0, h1, PyData.depth]
  omega
theorem any_wds (w : Wo) (ws : List Wo) : ((ws.map wd).any fun z => PyData.eqv z (wd w)) = decide (w ∈ ws) := by
  rw [List.any_map, Bool.eq_iff_iff, List.any_eq_true]
  simp only [Function.comp, decide_eq_true_eq, eqv_wd]
  exact ⟨fun ⟨x, h1, h2⟩ => h2 ▸ h1, fun h => ⟨w, h, rfl⟩⟩
end
/-- a list of worths at a -/
def PileAt (H : Hp) (a : Addr) (ws : List Wo) : Prop := ∃ xs, H a = some (.lst xs) ∧ Wos H xs ws
theorem PileAt.same {H H' : Hp} {a : Addr} {ws : List Wo} (s : Same H H') (h : PileAt H a ws) : PileAt H' a ws := by
  obtain ⟨xs, e, h⟩ := h
  exact ⟨xs, s _ _ e, h.same s⟩
theorem PileAt.dp {K : PySem.W.Frag} {H : Hp} {a : Addr} {ws : List Wo} (h : PileAt H a ws) : Dp K H (.ref a) (.list (ws.map wd)) := by
  obtain ⟨xs, e, h⟩ := h
  exact .lst (.inl (.inl e)) h.dp
theorem PileAt.app {H : Hp} {l : Addr} {xs : List V} {ws us : List Wo} {ys : List V} (hl : H l = some (.lst ys)) (h : Wos H xs ws) (g : ws = us) : PileAt (upd H l (.lst xs)) l us := by
  subst g
  exact ⟨xs, upd_same, h.upd hl⟩
theorem paired_dp {K : PySem.W.Frag} {H : Hp} {v : V} {w : Wo} (h : WoAt H v w) : Dp K H v (wd w) := h.dp
theorem r_eqD {K : PySem.W.Frag} {H : Hp} {Q : VK} {x y : V} {d e : PyData} (h1 : Dp K H x d) (h2 : Dp K H y e) (s1 : SeqAt.shaped d = true) (s2 : SeqAt.shaped e = true) (q : Q (.bl (PyData.eqv d e)) H) : rEqD K x y H Q := ⟨d, e, h1, h2, s1, s2, q⟩
theorem r_neD {K : PySem.W.Frag} {H : Hp} {Q : VK} {x y : V} {d e : PyData} (h1 : Dp K H x d) (h2 : Dp K H y e) (s1 : SeqAt.shaped d = true) (s2 : SeqAt.shaped e = true) (q : Q (.bl (!PyData.eqv d e)) H) : rNeD K x y H Q := ⟨d, e, h1, h2, s1, s2, q⟩
theorem r_slL {K : PySem.W.Frag} {H : Hp} {Q : VK} {a : Addr} {xs : List V} {lo hi : Option Int} (h : SqL K H a xs) (q : ∀ p, H p = none → Q (.ref p) (upd H p (.lst (cutV xs lo hi)))) : rSlL K (.ref a) lo hi H Q := ⟨a, xs, rfl, h, q⟩
theorem cut_to (xs : List V) (n : Nat) : cutV xs none (some (n : Int)) = xs.take n := by
  unfold cutV
  rw [HT.sIx_none, HT.sIx_nat, List.drop_zero, Nat.sub_zero]
  by_cases h : n ≤ xs.length
  · rw [Nat.min_eq_left h]
  · rw [Nat.min_eq_right (by omega), List.take_of_length_le (Nat.le_refl _), List.take_of_length_le (by omega)]
end G

namespace G
open PySem L2
/-! ### data that can be laid, no deeper than n -/
def Ok (n : Nat) (d : PyData) : Prop := PyData.canLay0 d = true ∧ d.depth ≤ n
theorem Ok.int {n : Nat} (i : Int) : Ok n (.int i) := ⟨rfl, by simp [PyData.depth]⟩
theorem Ok.str {n : Nat} {s : Str} (h : PyData.strOk s = true) : Ok n (.str s) := ⟨by simp [PyData.canLay0, h], by simp [PyData.depth]⟩
def OkAll (n : Nat) (ds : List PyData) : Prop := PyData.canLayAll0 ds = true ∧ PyData.depthAll ds ≤ n
theorem OkAll.nil {n : Nat} : OkAll n [] := ⟨by simp [PyData.canLayAll0], by simp [PyData.depthAll]⟩
theorem OkAll.cons {n : Nat} {d : PyData} {ds : List PyData} (h : Ok n d) (g : OkAll n ds) : OkAll n (d :: ds) := ⟨by simp [PyData.canLayAll0, h.1, g.1], by
  have := h.2
  have := g.2
  simp only [PyData.depthAll]
  omega⟩
theorem OkAll.map {α : Type} {n : Nat} {f : α → PyData} : ∀ {l : List α}, (∀ x ∈ l, Ok n (f x)) → OkAll n (l.map f)
  | [], _ => .nil
  | _ :: _, h => .cons (h _ List.mem_cons_self) (OkAll.map fun y m => h y (List.mem_cons_of_mem _ m))
theorem Ok.list {n : Nat} {ds : List PyData} (h : OkAll n ds) : Ok (n + 1) (.list ds) := ⟨by simp [PyData.canLay0, h.1], by
  have := h.2
  simp only [PyData.depth]
  omega⟩
theorem Ok.tuple {n : Nat} {ds : List PyData} (h : OkAll n ds) : Ok (n + 1) (.tuple ds) := ⟨by simp [PyData.canLay0, h.1], by
  have := h.2
  simp only [PyData.depth]
  omega⟩
theorem Ok.shaped {n : Nat} {d : PyData} (h : Ok n d) (l : n ≤ 64) : SeqAt.shaped d = true := by
  unfold SeqAt.shaped
  rw [h.1, Bool.true_and]
  exact decide_eq_true (Nat.le_trans h.2 l)
theorem Ok.refl {n : Nat} {d : PyData} (h : Ok n d) : PyData.eqv d d = true := PySem.SeqAt.eqv_refl d h.1
theorem ok_wd {w : Wo} (h : PyData.strOk w.1 = true) : Ok 1 (wd w) := .tuple (.cons (.str h) (.cons (.int _) .nil))
/-- two readings of the same data -/
theorem r_neSelf {K : PySem.W.Frag} {H : Hp} {Q : VK} {x y : V} {d : PyData} {n : Nat} (h1 : Dp K H x d) (h2 : Dp K H y d) (o : Ok n d) (l : n ≤ 64) (q : Q (.bl false) H) : rNeD K x y H Q :=
  ⟨d, d, h1, h2, o.shaped l, o.shaped l, by rw [o.refl]; exact q⟩
theorem r_eqSelf {K : PySem.W.Frag} {H : Hp} {Q : VK} {x y : V} {d : PyData} {n : Nat} (h1 : Dp K H x d) (h2 : Dp K H y d) (o : Ok n d) (l : n ≤ 64) (q : Q (.bl true) H) : rEqD K x y H Q :=
  ⟨d, d, h1, h2, o.shaped l, o.shaped l, by rw [o.refl]; exact q⟩
end G

namespace G
open PySem L2
/-! ### papers of pieces, as they stand in the heap -/
/-- the heap without the addresses ns: what stands there may change -/
def del (ns : List Addr) (H : Hp) : Hp := fun a => if a ∈ ns then none else H a
section
variable {ns : List Addr} {H H' : Hp} {a p : Addr} {o : HO}
theorem del_at (h : H a = some o) (n : a ∉ ns) : del ns H a = some o := by
  unfold del
  rw [if_neg n]
  exact h
theorem of_del (h : del ns H a = some o) : H a = some o ∧ a ∉ ns := by
  unfold del at h
  by_cases m : a ∈ ns
  · rw [if_pos m] at h
    cases h
  · rw [if_neg m] at h
    exact ⟨h, m⟩
theorem del_sub : Same (del ns H) H := fun b u e => (of_del e).1
theorem del_keep (h : ∀ b u, H b = some u → b ∉ ns → H' b = some u) : Same (del ns H) (del ns H') := fun b u e => by
  obtain ⟨h1, h2⟩ := of_del e
  exact del_at (h b u h1 h2) h2
theorem del_same (h : Same H H') : Same (del ns H) (del ns H') := del_keep fun b u e _ => h b u e
theorem del_but (h : But p H H') (m : p ∈ ns) : Same (del ns H) (del ns H') := del_keep fun b u e n => h b u e fun q => n (q ▸ m)
theorem del_upd (m : p ∈ ns) : Same (del ns H) (del ns (upd H p o)) := del_but But.upd m
/-- a new object whose address is to be left out from now on -/
theorem del_more (h : H a = none) : Same (del ns H) (del (a :: ns) H) := fun b u e => by
  obtain ⟨h1, h2⟩ := of_del e
  exact del_at h1 fun m => by
    rcases List.mem_cons.mp m with q | q
    · subst q
      rw [h] at h1
      cases h1
    · exact h2 q
theorem del_less : Same (del (a :: ns) H) (del ns H) := fun b u e => by
  obtain ⟨h1, h2⟩ := of_del e
  exact del_at h1 fun m => h2 (List.mem_cons_of_mem _ m)
end
/-- a list of lists of worths -/
def PileV (H : Hp) (v : V) (ws : List Wo) : Prop := ∃ l, v = .ref l ∧ PileAt H l ws
theorem vint {a b : Int} : (V.int a = V.int b) ↔ a = b := ⟨fun h => V.int.inj h, fun h => by rw [h]⟩
theorem dint {a b : Int} : decide (V.int a = V.int b) = decide (a = b) := decide_eq_decide.mpr vint
abbrev Pc := Int × List Wo
/-- a piece: a tuple of what it lies on and its worths -/
def PcAt (H : Hp) (v : V) (pc : Pc) : Prop := ∃ t l, v = .ref t ∧ H t = some (.tup [.int pc.1, .ref l]) ∧ PileAt H l pc.2
def PcsAt (H : Hp) (a : Addr) (pcs : List Pc) : Prop := ∃ xs, H a = some (.lst xs) ∧ Paired (PcAt H) xs pcs
def PilesAt (H : Hp) (a : Addr) (ps : List (List Wo)) : Prop := ∃ xs, H a = some (.lst xs) ∧ Paired (PileV H) xs ps
def IntsAt (H : Hp) (a : Addr) (ns : List Int) : Prop := H a = some (.lst (ns.map V.int))
def PaperAt (H : Hp) (v : V) (pcs : List Pc) (tops : List Int) : Prop := ∃ t a b, v = .ref t ∧ H t = some (.tup [.ref a, .ref b]) ∧ PcsAt H a pcs ∧ IntsAt H b tops
section
variable {H H' : Hp} {v : V} {a : Addr}
theorem PileV.same {ws : List Wo} (s : Same H H') (h : PileV H v ws) : PileV H' v ws := by
  obtain ⟨l, e, h⟩ := h
  exact ⟨l, e, h.same s⟩
theorem PcAt.same {pc : Pc} (s : Same H H') (h : PcAt H v pc) : PcAt H' v pc := by
  obtain ⟨t, l, e, h1, h2⟩ := h
  exact ⟨t, l, e, s _ _ h1, h2.same s⟩
theorem PcsAt.same {pcs : List Pc} (s : Same H H') (h : PcsAt H a pcs) : PcsAt H' a pcs := by
  obtain ⟨xs, e, h⟩ := h
  exact ⟨xs, s _ _ e, Paired.mapP h fun _ _ => PcAt.same s⟩
theorem PilesAt.same {pcs : List (List Wo)} (s : Same H H') (h : PilesAt H a pcs) : PilesAt H' a pcs := by
  obtain ⟨xs, e, h⟩ := h
  exact ⟨xs, s _ _ e, Paired.mapP h fun _ _ => PileV.same s⟩
theorem IntsAt.same {ns : List Int} (s : Same H H') (h : IntsAt H a ns) : IntsAt H' a ns := s _ _ h
theorem PaperAt.same {pcs : List Pc} {tops : List Int} (s : Same H H') (h : PaperAt H v pcs tops) : PaperAt H' v pcs tops := by
  obtain ⟨t, a, b, e, h1, h2, h3⟩ := h
  exact ⟨t, a, b, e, s _ _ h1, h2.same s, h3.same s⟩
end
theorem paired_len {α β : Type} {F : α → β → Prop} {xs : List α} {ys : List β} (h : Paired F xs ys) : xs.length = ys.length := by
  induction h with
  | nil => rfl
  | cons _ _ ih => rw [List.length_cons, List.length_cons, ih]
theorem paired_app {α β : Type} {F : α → β → Prop} {xs zs : List α} {ys us : List β} (h : Paired F xs ys) (g : Paired F zs us) : Paired F (xs ++ zs) (ys ++ us) := by
  induction h with
  | nil => exact g
  | cons a _ ih => exact .cons a ih
theorem paired_get {α β : Type} {F : α → β → Prop} : ∀ {xs : List α} {ys : List β} {i : Nat} {v : α}, Paired F xs ys → xs[i]? = some v → ∃ w, ys[i]? = some w ∧ F v w
  | _, _, _, _, .nil, e => by cases e
  | _, _, 0, _, .cons a _, e => ⟨_, rfl, by rw [← Option.some.inj e]; exact a⟩
  | _, _, i + 1, _, .cons _ b, e => paired_get (i := i) b e
theorem paired_at {α β : Type} {F : α → β → Prop} : ∀ {xs : List α} {ys : List β} {i : Nat} {w : β}, Paired F xs ys → ys[i]? = some w → ∃ v, xs[i]? = some v ∧ F v w
  | _, _, _, _, .nil, e => by cases e
  | _, _, 0, _, .cons a _, e => ⟨_, rfl, by rw [← Option.some.inj e]; exact a⟩
  | _, _, i + 1, _, .cons _ b, e => paired_at (i := i) b e
/-- the pile of the piece u, by the piles up to each piece -/
def pileAt (piles : List (List Wo)) (u : Int) : List Wo := if 0 ≤ u then piles.getD u.toNat [] else []
/-- what the law draws: pieces that lie on earlier ones, the piles up to each, tops -/
structure Raw (size : Int) (most : Nat) (raw : List Pc) (piles : List (List Wo)) (tops : List Int) : Prop where
  len : raw.length ≤ most
  plen : piles.length = raw.length
  pc : ∀ (i : Nat) (x : Pc), raw[i]? = some x → -1 ≤ x.1 ∧ x.1 < i ∧ 1 ≤ x.2.length ∧ (x.2.length : Int) ≤ size
  pile : ∀ (i : Nat) (x : Pc), raw[i]? = some x → piles[i]? = some (pileAt piles x.1 ++ x.2)
  tlen : tops.length ≤ 100
  top : ∀ t ∈ tops, -1 ≤ t ∧ t < raw.length
/-- as far as the pieces go -/
structure Raw0 (size : Int) (raw : List Pc) (piles : List (List Wo)) : Prop where
  plen : piles.length = raw.length
  pc : ∀ (i : Nat) (x : Pc), raw[i]? = some x → -1 ≤ x.1 ∧ x.1 < i ∧ 1 ≤ x.2.length ∧ (x.2.length : Int) ≤ size
  pile : ∀ (i : Nat) (x : Pc), raw[i]? = some x → piles[i]? = some (pileAt piles x.1 ++ x.2)
  hi : ∀ (i : Nat) (ws : List Wo), piles[i]? = some ws → (ws.length : Int) ≤ size * (i + 1)
theorem Raw0.nil (size : Int) : Raw0 size [] [] := ⟨rfl, fun i x h => by simp at h, fun i x h => by simp at h, fun i x h => by simp at h⟩
theorem pileAt_snoc {piles : List (List Wo)} {u : Int} (ws : List Wo) (h : u < piles.length) : pileAt (piles ++ [ws]) u = pileAt piles u := by
  unfold pileAt
  by_cases h0 : 0 ≤ u
  · rw [if_pos h0, if_pos h0, List.getD_eq_getElem?_getD, List.getD_eq_getElem?_getD, List.getElem?_append_left (by omega)]
  · rw [if_neg h0, if_neg h0]
theorem Raw0.snoc {size : Int} {raw : List Pc} {piles : List (List Wo)} (h : Raw0 size raw piles) {u : Int} {ws : List Wo} (h0 : -1 ≤ u) (h1 : u < raw.length) (h2 : 1 ≤ ws.length) (h3 : (ws.length : Int) ≤ size) (hs : 0 ≤ size) :
    Raw0 size (raw ++ [(u, ws)]) (piles ++ [pileAt piles u ++ ws]) := by
  have pl := h.plen
  have at0 : ∀ {i : Nat} {x : Pc}, (raw ++ [(u, ws)])[i]? = some x → (raw[i]? = some x ∧ i < raw.length) ∨ (i = raw.length ∧ x = (u, ws)) := by
    intro i x e
    by_cases c : i < raw.length
    · rw [List.getElem?_append_left c] at e
      exact .inl ⟨e, c⟩
    · rw [List.getElem?_append_right (by omega)] at e
      have z : i - raw.length = 0 := by
        cases q : i - raw.length with
        | zero => rfl
        | succ k =>
          rw [q] at e
          simp at e
      rw [z] at e
      exact .inr ⟨by omega, (Option.some.inj e).symm⟩
  refine ⟨by rw [List.length_append, List.length_append, pl]; rfl, fun i x e => ?_, fun i x e => ?_, fun i zs e => ?_⟩
  · rcases at0 e with ⟨e, _⟩ | ⟨rfl, rfl⟩
    · exact h.pc i x e
    · exact ⟨h0, h1, h2, h3⟩
  · rcases at0 e with ⟨e, c⟩ | ⟨rfl, rfl⟩
    · have q := h.pc i x e
      rw [List.getElem?_append_left (by omega), pileAt_snoc _ (by omega)]
      exact h.pile i x e
    · rw [← pl, List.getElem?_append_right (Nat.le_refl _), Nat.sub_self, pileAt_snoc _ (by omega)]
      rfl
  · by_cases c : i < piles.length
    · rw [List.getElem?_append_left c] at e
      exact h.hi i zs e
    · rw [List.getElem?_append_right (by omega)] at e
      have z : i - piles.length = 0 := by
        cases q : i - piles.length with
        | zero => rfl
        | succ k =>
          rw [q] at e
          simp at e
      rw [z] at e
      have e := Option.some.inj e
      subst e
      rw [List.length_append]
      have ei : i = piles.length := by omega
      have key : ((pileAt piles u).length : Int) ≤ size * i := by
        unfold pileAt
        by_cases c0 : 0 ≤ u
        · rw [if_pos c0, List.getD_eq_getElem?_getD]
          have lt : u.toNat < piles.length := by omega
          rw [List.getElem?_eq_getElem lt]
          have q := h.hi u.toNat _ (List.getElem?_eq_getElem lt)
          refine Int.le_trans q ?_
          exact Int.mul_le_mul_of_nonneg_left (by omega) hs
        · rw [if_neg c0]
          have := Int.mul_nonneg hs (show (0 : Int) ≤ i by omega)
          simpa using this
      have e3 : size * ((i : Int) + 1) = size * i + size := by rw [Int.mul_add, Int.mul_one]
      rw [e3]
      omega
theorem wos_del {ns : List Addr} {H : Hp} {xs : List V} {ws : List Wo} (h : Wos H xs ws) (k : ∀ a ∈ ns, ∃ ys, H a = some (.lst ys)) : Wos (del ns H) xs ws :=
  Paired.mapP h fun v w ⟨a, e, q, o⟩ => ⟨a, e, del_at q (fun m => by
    obtain ⟨ys, z⟩ := k a m
    rw [q] at z
    exact absurd z (by simp)), o⟩
theorem BagAt.lst {H : Hp} {p : Addr} {n : Nat} (h : BagAt H p n) : ∃ ys, H p = some (.lst ys) := by
  obtain ⟨a, b, c, e, _⟩ := h
  exact ⟨_, e⟩
end G

namespace G
open PySem L2 TL
/-! ### worths as texts -/
theorem dstr {a b : Str} : decide (V.str a = V.str b) = decide (a = b) := decide_eq_decide.mpr ⟨fun h => V.str.inj h, fun h => by rw [h]⟩
def markOf (s : Str) : Str := if s = "at" then "@" else if s = "box" then "b" else if s = "go" then "g" else ""
def numT (n : Int) : List Nat := if n < 0 then 45 :: numL n.natAbs else numL n.natAbs
def wt (w : Wo) : Str := markOf w.1 ++ Str.ofString (toString w.2)
theorem tl_int (n : Int) : tl (Str.ofString (toString n)) = numT n := by
  unfold numT
  by_cases h : n < 0
  · rw [if_pos h, PyProof.Rows.toString_neg h, tl_ofString, String.toList_append, List.map_append]
    have e : (0 : Int) - n = ((n.natAbs : Nat) : Int) := by omega
    rw [e, ← tl_ofString (toString ((n.natAbs : Nat) : Int)), tl_num]
    rfl
  · rw [if_neg h]
    have e : n = ((n.natAbs : Nat) : Int) := by omega
    rw [e, tl_num, Int.natAbs_natCast]
/-- what the laws hand to be written -/
def Word (s : Str) : Prop := s = "num" ∨ s = "at" ∨ s = "box" ∨ s = "go"
structure Good (w : Wo) : Prop where
  word : Word w.1
  low : w.1 = "num" ∨ 0 ≤ w.2
  lo : -(10 ^ 60) < w.2
  hi : w.2 < 10 ^ 60
theorem numL_60 {n : Int} (h1 : -(10 ^ 60) < n) (h2 : n < 10 ^ 60) : (numL n.natAbs).length ≤ 60 := by
  refine numL_len (by decide) ?_
  have e : ((10 : Nat) ^ 60 : Nat) = 1000000000000000000000000000000000000000000000000000000000000 := by decide
  have f : ((10 : Int) ^ 60 : Int) = 1000000000000000000000000000000000000000000000000000000000000 := by decide
  rw [e]
  rw [f] at h1 h2
  omega
theorem log_60 {n : Int} (h1 : -(10 ^ 60) < n) (h2 : n < 10 ^ 60) : n.natAbs.log2 < 1920 := by
  have f : ((10 : Int) ^ 60 : Int) = 1000000000000000000000000000000000000000000000000000000000000 := by decide
  rw [f] at h1 h2
  have : n.natAbs < 2 ^ 200 := by
    have g : (2 : Nat) ^ 200 = 1606938044258990275541962092341162602522202993782792835301376 := by decide
    rw [g]
    omega
  by_cases z : n.natAbs = 0
  · rw [z]
    decide
  · exact Nat.lt_of_lt_of_le ((Nat.log2_lt z).mpr this) (by decide)
theorem mark_len (s : Str) : (markOf s).length ≤ 1 := by
  unfold markOf
  split
  · decide
  split
  · decide
  split
  · decide
  · decide
theorem len_app' (a b : Str) : (a ++ b).length = a.length + b.length := by
  rw [len_tl, len_tl, len_tl, tl_append, List.length_append]
theorem num_len {n : Int} (h1 : -(10 ^ 60) < n) (h2 : n < 10 ^ 60) : (Str.ofString (toString n)).length ≤ 61 := by
  have := numL_60 h1 h2
  rw [len_tl, tl_int]
  unfold numT
  split
  · rw [List.length_cons]
    omega
  · omega
theorem wt_len {w : Wo} (g : Good w) : (wt w).length ≤ 62 := by
  have := num_len g.lo g.hi
  have := mark_len w.1
  unfold wt
  rw [len_app']
  omega
theorem word_cases {s : Str} (h : Word s) (h2 : s ≠ "num") : s = "at" ∨ s = "box" ∨ s = "go" := h.resolve_left h2
theorem marks_find {s : Str} (h : Word s) : (marks.find? (fun p => decide (p.1 = s))).map (·.2) = some (markOf s) := by
  rcases h with rfl | rfl | rfl | rfl <;> decide +kernel
theorem tl_wt (w : Wo) : tl (wt w) = tl (markOf w.1) ++ numT w.2 := by
  unfold wt
  rw [tl_append, tl_int]
theorem tl_cut1 {z : Str} (h : 1 ≤ z.length) : tl (cutS z (some 1) none) = (tl z).drop 1 := by
  show (((tl z).drop (HT.sIx z.length 0 (some ((1 : Nat) : Int)))).take (HT.sIx z.length z.length none - HT.sIx z.length 0 (some ((1 : Nat) : Int)))) = _
  rw [HT.sIx_nat, HT.sIx_none, Nat.min_eq_left h]
  exact List.take_of_length_le (by rw [List.length_drop, ← len_tl]; exact Nat.le_refl _)
theorem numL_head : ∀ (n c : Nat) (r : List Nat), numL n = c :: r → c = 48 → r = [] := by
  intro n
  induction n using Nat.strongRecOn with
  | _ n ih =>
    intro c r h e
    by_cases h10 : n < 10
    · rw [numL_lt h10] at h
      exact (List.cons.inj h).2.symm
    · rw [numL_step (by omega)] at h
      have ne := numL_ne (n / 10)
      cases hq : numL (n / 10) with
      | nil => exact absurd hq ne
      | cons c2 r2 =>
        rw [hq] at h
        have e2 : c2 = c := (List.cons.inj h).1
        have r0 := ih (n / 10) (by omega) c2 r2 hq (by rw [e2, e])
        rw [r0] at hq
        have v := numL_val (n / 10)
        rw [hq, e2, e] at v
        have : n / 10 = 0 := by
          rw [← v]
          rfl
        omega
theorem numL_cons (n : Nat) : ∃ c r, numL n = c :: r ∧ 48 ≤ c ∧ c ≤ 57 := by
  cases h : numL n with
  | nil => exact absurd h (numL_ne n)
  | cons c r =>
    have d := numL_digits n c (by rw [h]; exact List.mem_cons_self)
    exact ⟨c, r, rfl, d.1, d.2⟩
theorem figure {c : Nat} (h1 : 48 ≤ c) (h2 : c ≤ 57) : c ∈ (Str.ofString "0123456789").cps.toList := by
  have : (Str.ofString "0123456789").cps.toList = [48, 49, 50, 51, 52, 53, 54, 55, 56, 57] := by decide +kernel
  rw [this]
  have : c = 48 ∨ c = 49 ∨ c = 50 ∨ c = 51 ∨ c = 52 ∨ c = 53 ∨ c = 54 ∨ c = 55 ∨ c = 56 ∨ c = 57 := by omega
  rcases this with rfl | rfl | rfl | rfl | rfl | rfl | rfl | rfl | rfl | rfl <;> decide
theorem sign_eq {c : Nat} {s : String} {d : Nat} (h : (Str.ofString s).cps = #[d]) : ((⟨#[c]⟩ : Str) = Str.ofString s) ↔ c = d := by
  constructor
  · intro e
    have := congrArg Str.cps e
    rw [h] at this
    have e2 : [c] = [d] := congrArg Array.toList this
    exact (List.cons.inj e2).1
  · intro e
    subst e
    exact Str.ext' h.symm
def marked : List (Str × Str) := [("@", "at"), ("b", "box"), ("g", "go")]
/-- the first sign tells the word -/
theorem marked_digit {c : Nat} (h : c ≠ 64 ∧ c ≠ 98 ∧ c ≠ 103) : marked.find? (fun p => decide (p.1 = (⟨#[c]⟩ : Str))) = none := by
  have b : ∀ (s : String) (d : Nat), (Str.ofString s).cps = #[d] → c ≠ d → decide (Str.ofString s = (⟨#[c]⟩ : Str)) = false := fun s d e n => decide_eq_false fun q => n ((sign_eq e).mp q.symm)
  unfold marked
  simp only [List.find?_cons, b "@" 64 (by decide +kernel) h.1, b "b" 98 (by decide +kernel) h.2.1, b "g" 103 (by decide +kernel) h.2.2, List.find?_nil]
theorem tl_nil {z : Str} : tl z = [] ↔ z = "" := by
  constructor
  · intro h
    exact ext_tl (by rw [h]; decide +kernel)
  · intro h
    subst h
    decide +kernel
theorem atI0 {α : Type} (c : α) (r : List α) : atI (c :: r) 0 = some c := by
  simp [atI, ixN]
/-- how a worth's text begins -/
inductive Begins : Wo → Prop
  | digit {w : Wo} {c : Nat} {r : List Nat} (h : w.1 = "num") (n : 0 ≤ w.2) (e : tl (wt w) = numL w.2.natAbs) (e2 : numL w.2.natAbs = c :: r) (c0 : 48 ≤ c) (c1 : c ≤ 57) : Begins w
  | minus {w : Wo} (h : w.1 = "num") (n : w.2 < 0) (e : tl (wt w) = 45 :: numL w.2.natAbs) : Begins w
  | marked {w : Wo} {c : Nat} (n : 0 ≤ w.2) (e : tl (wt w) = c :: numL w.2.natAbs) (m : marked.find? (fun p => decide (p.1 = (⟨#[c]⟩ : Str))) = some (⟨#[c]⟩, w.1)) : Begins w
theorem begins {w : Wo} (g : Good w) : Begins w := by
  have e := tl_wt w
  unfold numT at e
  rcases g.word with h | h
  · rw [h] at e
    by_cases n : w.2 < 0
    · rw [if_pos n] at e
      exact .minus h n e
    · rw [if_neg n] at e
      obtain ⟨c, r, en, c0, c1⟩ := numL_cons w.2.natAbs
      exact .digit h (by omega) e en c0 c1
  · have n : 0 ≤ w.2 := by
      rcases g.low with q | q
      · rw [q] at h
        rcases h with h | h | h <;> exact absurd h (by decide +kernel)
      · exact q
    rw [if_neg (by omega)] at e
    rcases h with h | h | h
    · rw [h] at e
      exact .marked (c := 64) n e (by rw [h]; decide +kernel)
    · rw [h] at e
      exact .marked (c := 98) n e (by rw [h]; decide +kernel)
    · rw [h] at e
      exact .marked (c := 103) n e (by rw [h]; decide +kernel)
theorem begins_not {w : Wo} (b : Begins w) : wt w ≠ "" ∧ wt w ≠ "-0" := by
  have m0 : tl (Str.ofString "-0") = [45, 48] := by decide +kernel
  cases b with
  | @digit c r h n e e2 c0 c1 =>
    refine ⟨fun z => ?_, fun z => ?_⟩
    · have := tl_nil.mpr z
      rw [e, e2] at this
      cases this
    · rw [z, m0, e2] at e
      have := (List.cons.inj e).1
      omega
  | minus h n e =>
    refine ⟨fun z => ?_, fun z => ?_⟩
    · have := tl_nil.mpr z
      rw [e] at this
      cases this
    · rw [z, m0] at e
      have e3 := (List.cons.inj e).2
      have v := numL_val w.2.natAbs
      rw [← e3] at v
      have : w.2.natAbs = 0 := by
        rw [← v]
        rfl
      omega
  | @marked c n e m =>
    refine ⟨fun z => ?_, fun z => ?_⟩
    · have := tl_nil.mpr z
      rw [e] at this
      cases this
    · rw [z, m0] at e
      have e3 := (List.cons.inj e).1
      rw [← e3, marked_digit (by decide)] at m
      cases m
/-! piles as texts -/
def pileText (ws : List Wo) : Str := if ws = [] then "none" else Txt.join " " (ws.map wt)
theorem tl_blank : tl (Str.ofString " ") = [32] := by decide +kernel
theorem tl_pile {ws : List Wo} (h : ws ≠ []) : tl (pileText ws) = joinL [32] (ws.map fun w => tl (wt w)) := by
  unfold pileText
  rw [if_neg h, join_eq, tl_join, tl_blank, List.map_map]
  rfl
theorem signs_wt {w : Wo} (g : Good w) : (∃ c r, tl (wt w) = c :: r ∧ c ≠ 110) ∧ 32 ∉ tl (wt w) := by
  have f := fun n => numL_free (n := n) (s := 32) (.inl (by decide))
  cases begins g with
  | @digit c r h n e e2 c0 c1 =>
    rw [e]
    exact ⟨⟨c, r, e2, by omega⟩, f _⟩
  | minus h n e =>
    rw [e]
    refine ⟨⟨45, _, rfl, by decide⟩, fun m => ?_⟩
    rcases List.mem_cons.mp m with m | m
    · cases m
    · exact f _ m
  | @marked c n e m =>
    have nc : c = 64 ∨ c = 98 ∨ c = 103 := by
      by_cases q : c ≠ 64 ∧ c ≠ 98 ∧ c ≠ 103
      · rw [marked_digit q] at m
        cases m
      · omega
    rw [e]
    refine ⟨⟨c, _, rfl, by omega⟩, fun m => ?_⟩
    rcases List.mem_cons.mp m with m | m
    · omega
    · exact f _ m
theorem joinL_len {k : Nat} : ∀ {ps : List (List Nat)}, (∀ p ∈ ps, p.length ≤ k) → (joinL [32] ps).length ≤ (k + 1) * ps.length
  | [], _ => Nat.zero_le _
  | [p], h => by
    have := h p List.mem_cons_self
    show p.length ≤ _
    simp
    omega
  | p :: q :: r, h => by
    have h1 := h p List.mem_cons_self
    have h2 := joinL_len (ps := q :: r) fun x m => h x (List.mem_cons_of_mem _ m)
    show (p ++ ([32] ++ joinL [32] (q :: r))).length ≤ (k + 1) * (q :: r).length.succ
    rw [List.length_append, List.length_append, Nat.mul_succ]
    simp only [List.length_singleton]
    omega
theorem pile_text_len {ws : List Wo} (g : ∀ w ∈ ws, Good w) (l : ws.length ≤ 1000) : (pileText ws).length ≤ 63000 := by
  by_cases h : ws = []
  · unfold pileText
    rw [if_pos h]
    decide
  · rw [len_tl, tl_pile h]
    have := joinL_len (k := 62) (ps := ws.map fun w => tl (wt w)) fun p m => by
      obtain ⟨w, mw, rfl⟩ := List.mem_map.mp m
      have := wt_len (g w mw)
      rw [len_tl] at this
      exact this
    rw [List.length_map] at this
    omega
theorem pile_not_none {ws : List Wo} (g : ∀ w ∈ ws, Good w) (h : ws ≠ []) : pileText ws ≠ "none" := by
  intro e
  have := tl_pile h
  rw [e] at this
  cases ws with
  | nil => exact h rfl
  | cons w r =>
    obtain ⟨⟨c, q, e2, nc⟩, -⟩ := signs_wt (g w List.mem_cons_self)
    have e3 : tl (Str.ofString "none") = [110, 111, 110, 101] := by decide +kernel
    rw [e3] at this
    cases r with
    | nil =>
      have : [110, 111, 110, 101] = tl (wt w) := this
      rw [e2] at this
      exact nc (List.cons.inj this).1.symm
    | cons w2 r =>
      have : [110, 111, 110, 101] = tl (wt w) ++ ([32] ++ joinL [32] ((w2 :: r).map fun w => tl (wt w))) := this
      rw [e2] at this
      exact nc (List.cons.inj this).1.symm
theorem pile_split {ws : List Wo} (g : ∀ w ∈ ws, Good w) (h : ws ≠ []) : Txt.split (pileText ws) " " = ws.map wt := by
  unfold pileText
  rw [if_neg h]
  refine split_join (y := Str.ofString " ") (s := 32) (S := []) tl_blank (by decide +kernel) (by simpa using h) fun p m => ?_
  obtain ⟨w, mw, rfl⟩ := List.mem_map.mp m
  exact (signs_wt (g w mw)).2
/-- the law's own way: a blank ahead of each -/
def glue (ws : List Wo) : List Nat := (ws.map fun w => 32 :: tl (wt w)).flatten
theorem glue_drop : ∀ {ws : List Wo}, ws ≠ [] → (glue ws).drop 1 = joinL [32] (ws.map fun w => tl (wt w))
  | [], h => absurd rfl h
  | [w], _ => by simp [glue, joinL]
  | w :: v :: r, _ => by
    have ih := glue_drop (ws := v :: r) (by simp)
    have e : glue (w :: v :: r) = 32 :: (tl (wt w) ++ glue (v :: r)) := rfl
    have e2 : glue (v :: r) = 32 :: (glue (v :: r)).drop 1 := rfl
    rw [e, e2, ih]
    rfl
theorem glue_snoc (ws : List Wo) (w : Wo) : glue (ws ++ [w]) = glue ws ++ 32 :: tl (wt w) := by
  unfold glue
  rw [List.map_append, List.flatten_append]
  simp
theorem glue_len {ws : List Wo} (g : ∀ w ∈ ws, Good w) : (glue ws).length ≤ 63 * ws.length := by
  induction ws with
  | nil => exact Nat.zero_le _
  | cons w r ih =>
    have h1 := wt_len (g w List.mem_cons_self)
    rw [len_tl] at h1
    have h2 := ih fun x m => g x (List.mem_cons_of_mem _ m)
    have e : glue (w :: r) = 32 :: (tl (wt w) ++ glue r) := rfl
    rw [e]
    simp only [List.length_cons, List.length_append]
    omega
end G

namespace G
open PySem L2 TL
theorem rows_ints_dp {K : PySem.W.Frag} {H : Hp} : ∀ ns : List Int, DpAll K H (ns.map V.int) (ns.map PyData.int)
  | [] => .nil
  | _ :: r => .cons (.int _) (rows_ints_dp r)
/-! ### rows of programs -/
def strsS (l : List Value) : List (Option Str) := l.map keyS
theorem vals_strs : ∀ {l : List Value} {xs : List Str}, strsS l = xs.map some → Vals (xs.map V.str) l
  | [], [], _ => .nil
  | [], _ :: _, h => by cases h
  | _ :: _, [], h => by cases h
  | v :: r, x :: xs, h => by
    have h1 : keyS v :: strsS r = some x :: xs.map some := h
    injection h1 with h2 h3
    obtain ⟨t, rfl⟩ := keyS_of h2
    exact .cons ⟨t, rfl⟩ (vals_strs h3)
/-- a tuple of texts at the module's top -/
def TopT (K : PySem.W.Frag) (a : Addr) (xs : List Str) : Prop := ∃ (o : Obj) (its : Array Value) (n : Nat), K.lookup a = some o ∧ o.cls = .type "tuple" ∧ o.data = .seq its n ∧ its.size ≤ sizeLine ∧ Vals (xs.map V.str) its.toList
theorem TopT.at {K : PySem.W.Frag} {H : Hp} {a : Addr} {xs : List Str} (h : TopT K a xs) : SqT K H a (xs.map V.str) := .inr h
theorem TopT.of {K : PySem.W.Frag} {a : Addr} {d : Option Addr} {its : Array Value} {n : Nat} {sl : Array (Option Value)} {xs : List Str} (l : K.lookup a = some ⟨.type "tuple", d, .seq its n, sl⟩) (h : strsS its.toList = xs.map some) (hz : xs.length ≤ 100) : TopT K a xs := by
  refine ⟨_, its, n, l, rfl, rfl, ?_, vals_strs h⟩
  have := congrArg List.length h
  unfold strsS at this
  rw [List.length_map, List.length_map, Array.length_toList] at this
  exact sz (by omega)
theorem inV_strs (s : Str) (xs : List Str) : inV (.str s) (xs.map V.str) = decide (s ∈ xs) := by
  unfold inV
  rw [List.any_map, Bool.eq_iff_iff, List.any_eq_true, decide_eq_true_eq]
  constructor
  · rintro ⟨y, my, e⟩
    have : y = s := by simpa [eqV] using e
    exact this ▸ my
  · intro m
    exact ⟨s, m, by simp [eqV]⟩
def reaching : List Str := ["pick", "drop", "lift", "go", "back"]
def leading : List Str := ["keep", "call", "jump", "if"]
def bare : List Str := ["add", "less", "box", "get", "set", "tell", "sweep"]
abbrev Row := Str × Option Int
def rowV (r : Row) : List V := .str r.1 :: (match r.2 with | none => [] | some n => [.int n])
def RowAt (H : Hp) (v : V) (r : Row) : Prop := ∃ a, v = .ref a ∧ H a = some (.tup (rowV r))
theorem RowAt.same {H H' : Hp} {v : V} {r : Row} (s : Same H H') (h : RowAt H v r) : RowAt H' v r := by
  obtain ⟨a, e, h⟩ := h
  exact ⟨a, e, s _ _ h⟩
inductive GoodRow (many : Int) : Row → Prop
  | bare {s : Str} (h : s ∈ bare) : GoodRow many (s, none)
  | put {n : Int} (l : -(10 ^ 60) < n) (h : n < 10 ^ 60) : GoodRow many ("put", some n)
  | reach {s : Str} {n : Int} (h : s ∈ reaching) (l : 0 ≤ n) (u : n < 10 ^ 60) : GoodRow many (s, some n)
  | lead {s : Str} {n : Int} (h : s ∈ leading) (l : 0 ≤ n) (u : n ≤ many) (m : many ≤ 1000000) : GoodRow many (s, some n)
/-! rows as texts -/
def parts (r : Row) : List Str := r.1 :: (match r.2 with | none => [] | some n => [Str.ofString (toString n)])
def rowText (r : Row) : Str := Txt.join " " (parts r)
def progText (rs : List Row) : Str := Txt.join "; " (rs.map rowText)
theorem tl_part : tl (Str.ofString "; ") = [59, 32] := by decide +kernel
/-- small letters -/
def Small (s : Str) : Prop := 1 ≤ s.length ∧ s.length ≤ 10 ∧ ∀ c ∈ tl s, 97 ≤ c ∧ c ≤ 122
def allWords : List Str := "put" :: (reaching ++ leading ++ bare)
theorem small_all : ∀ s ∈ allWords, (decide (1 ≤ s.length) && decide (s.length ≤ 10) && (tl s).all fun c => decide (97 ≤ c) && decide (c ≤ 122)) = true := by decide +kernel
theorem small_of {s : Str} (h : s ∈ allWords) : Small s := by
  have := small_all s h
  simp only [Bool.and_eq_true, decide_eq_true_eq, List.all_eq_true] at this
  exact ⟨this.1.1, this.1.2, this.2⟩
theorem GoodRow.small {m : Int} {r : Row} (g : GoodRow m r) : Small r.1 := by
  cases g with
  | bare h => exact small_of (List.mem_cons_of_mem _ (List.mem_append_right _ h))
  | put l h => exact small_of List.mem_cons_self
  | reach h l u => exact small_of (List.mem_cons_of_mem _ (List.mem_append_left _ (List.mem_append_left _ h)))
  | lead h l u m => exact small_of (List.mem_cons_of_mem _ (List.mem_append_left _ (List.mem_append_right _ h)))
theorem GoodRow.num {m : Int} {r : Row} (g : GoodRow m r) {n : Int} (e : r.2 = some n) : -(10 ^ 60) < n ∧ n < 10 ^ 60 := by
  have p60 : (1000000 : Int) < 10 ^ 60 := by decide +kernel
  cases g with
  | bare h => cases e
  | put l h =>
    cases e
    exact ⟨l, h⟩
  | reach h l u =>
    cases e
    exact ⟨by omega, u⟩
  | lead h l u m =>
    cases e
    exact ⟨by omega, by omega⟩
theorem numT_signs {n : Int} {c : Nat} (h : c ∈ numT n) : c = 45 ∨ (48 ≤ c ∧ c ≤ 57) := by
  unfold numT at h
  split at h
  · rcases List.mem_cons.mp h with e | m
    · exact .inl e
    · exact .inr (numL_digits _ c m)
  · exact .inr (numL_digits _ c h)
/-- the signs of a row's parts: no blank, no ; -/
theorem part_signs {m : Int} {r : Row} (g : GoodRow m r) : ∀ p ∈ parts r, 1 ≤ p.length ∧ p.length ≤ 61 ∧ ∀ c ∈ tl p, c ≠ 32 ∧ c ≠ 59 := by
  intro p mp
  have s := g.small
  rcases List.mem_cons.mp mp with e | mp
  · rw [e]
    exact ⟨s.1, by have := s.2.1; omega, fun c mc => by have := s.2.2 c mc; omega⟩
  · obtain ⟨w, o⟩ := r
    cases o with
    | none => cases mp
    | some n =>
      have b := g.num rfl
      rw [List.mem_singleton.mp mp]
      refine ⟨?_, num_len b.1 b.2, fun c mc => ?_⟩
      · rw [len_tl, tl_int]
        unfold numT
        have := numL_ne n.natAbs
        split
        · simp
        · exact List.length_pos_iff.mpr this
      · rw [tl_int] at mc
        have := numT_signs mc
        omega
theorem parts_ne (r : Row) : parts r ≠ [] := by
  unfold parts
  simp
theorem row_split {m : Int} {r : Row} (g : GoodRow m r) : Txt.split (rowText r) " " = parts r :=
  split_join (y := Str.ofString " ") (s := 32) (S := []) tl_blank (by decide +kernel) (parts_ne r) fun p mp hc => ((part_signs g p mp).2.2 32 hc).1 rfl
theorem joinL_mem {S : List Nat} {c : Nat} : ∀ {ps : List (List Nat)}, c ∈ joinL S ps → c ∈ S ∨ ∃ p ∈ ps, c ∈ p
  | [], h => by cases h
  | [p], h => .inr ⟨p, List.mem_cons_self, h⟩
  | p :: q :: r, h => by
    have h : c ∈ p ++ (S ++ joinL S (q :: r)) := h
    rcases List.mem_append.mp h with h | h
    · exact .inr ⟨p, List.mem_cons_self, h⟩
    rcases List.mem_append.mp h with h | h
    · exact .inl h
    · rcases joinL_mem h with h | ⟨x, mx, h⟩
      · exact .inl h
      · exact .inr ⟨x, List.mem_cons_of_mem _ mx, h⟩
theorem tl_row (r : Row) : tl (rowText r) = joinL [32] ((parts r).map tl) := by
  unfold rowText
  rw [join_eq, tl_join, tl_blank]
theorem row_signs {m : Int} {r : Row} (g : GoodRow m r) : 59 ∉ tl (rowText r) := by
  intro h
  rw [tl_row] at h
  rcases joinL_mem h with h | ⟨p, mp, h⟩
  · cases List.mem_singleton.mp h
  · obtain ⟨q, mq, rfl⟩ := List.mem_map.mp mp
    exact ((part_signs g q mq).2.2 59 h).2 rfl
theorem prog_split {m : Int} {rs : List Row} (g : ∀ r ∈ rs, GoodRow m r) (h : rs ≠ []) : Txt.split (progText rs) "; " = rs.map rowText :=
  split_join (y := Str.ofString "; ") (s := 59) (S := [32]) tl_part (by decide +kernel) (by simpa using h) fun p mp => by
    obtain ⟨r, mr, rfl⟩ := List.mem_map.mp mp
    exact row_signs (g r mr)
theorem joinS_len {S : List Nat} {k : Nat} : ∀ {ps : List (List Nat)}, (∀ p ∈ ps, p.length ≤ k) → (joinL S ps).length ≤ (k + S.length) * ps.length
  | [], _ => Nat.zero_le _
  | [p], h => by
    have := h p List.mem_cons_self
    show p.length ≤ _
    simp
    omega
  | p :: q :: r, h => by
    have h1 := h p List.mem_cons_self
    have h2 := joinS_len (S := S) (ps := q :: r) fun x m => h x (List.mem_cons_of_mem _ m)
    show (p ++ (S ++ joinL S (q :: r))).length ≤ (k + S.length) * (q :: r).length.succ
    rw [List.length_append, List.length_append, Nat.mul_succ]
    omega
theorem row_len {m : Int} {r : Row} (g : GoodRow m r) : (rowText r).length ≤ 124 := by
  rw [len_tl, tl_row]
  have := joinS_len (S := [32]) (k := 61) (ps := (parts r).map tl) fun p mp => by
    obtain ⟨q, mq, rfl⟩ := List.mem_map.mp mp
    have := (part_signs g q mq).2.1
    rw [len_tl] at this
    exact this
  have l : (parts r).length ≤ 2 := by
    unfold parts
    obtain ⟨w, o⟩ := r
    cases o <;> simp
  rw [List.length_map] at this
  simp only [List.length_singleton] at this
  omega
theorem tl_prog (rs : List Row) : tl (progText rs) = joinL [59, 32] (rs.map fun r => tl (rowText r)) := by
  unfold progText
  rw [join_eq, tl_join, tl_part, List.map_map]
  rfl
theorem prog_len {m : Int} {rs : List Row} (g : ∀ r ∈ rs, GoodRow m r) (l : rs.length ≤ 100) : (progText rs).length ≤ 12600 := by
  rw [len_tl, tl_prog]
  have := joinS_len (S := [59, 32]) (k := 124) (ps := rs.map fun r => tl (rowText r)) fun p mp => by
    obtain ⟨r, mr, rfl⟩ := List.mem_map.mp mp
    have := row_len (g r mr)
    rw [len_tl] at this
    exact this
  rw [List.length_map] at this
  simp only [List.length_cons, List.length_nil] at this
  omega
theorem prog_nil {rs : List Row} {m : Int} (g : ∀ r ∈ rs, GoodRow m r) : progText rs = "" ↔ rs = [] := by
  constructor
  · intro h
    cases rs with
    | nil => rfl
    | cons r q =>
      exfalso
      have s := (g r List.mem_cons_self).small.1
      have e := tl_nil.mpr h
      rw [tl_prog] at e
      have l : 1 ≤ (tl (rowText r)).length := by
        rw [tl_row]
        have e1 : (parts r).map tl = tl r.1 :: (match r.2 with | none => [] | some n => [Str.ofString (toString n)]).map tl := rfl
        rw [e1]
        rw [len_tl] at s
        cases (match r.2 with | none => [] | some n => [Str.ofString (toString n)]).map tl with
        | nil => exact s
        | cons a b =>
          show 1 ≤ (tl r.1 ++ ([32] ++ joinL [32] (a :: b))).length
          rw [List.length_append]
          omega
      cases q with
      | nil =>
        have e : tl (rowText r) = [] := e
        rw [e] at l
        exact absurd l (by decide)
      | cons r2 q =>
        have e : tl (rowText r) ++ ([59, 32] ++ joinL [59, 32] ((r2 :: q).map fun r => tl (rowText r))) = [] := e
        rw [List.append_eq_nil_iff] at e
        rw [e.1] at l
        exact absurd l (by decide)
  · intro h
    subst h
    rfl
theorem row_item {r : Row} {k : Nat} {x : V} (h : (rowV r)[k]? = some x) : ∃ p, (parts r)[k]? = some p ∧ (x = .str p ∨ ∃ n, x = .int n ∧ p = Str.ofString (toString n) ∧ r.2 = some n) := by
  obtain ⟨w, o⟩ := r
  cases o with
  | none =>
    cases k with
    | zero =>
      cases h
      exact ⟨w, rfl, .inl rfl⟩
    | succ k => cases h
  | some n =>
    cases k with
    | zero =>
      cases h
      exact ⟨w, rfl, .inl rfl⟩
    | succ k =>
      cases k with
      | zero =>
        cases h
        exact ⟨_, rfl, .inr ⟨n, rfl, rfl, rfl⟩⟩
      | succ k => cases h
theorem rowV_len (r : Row) : (rowV r).length = (parts r).length := by
  obtain ⟨w, o⟩ := r
  cases o <;> rfl
theorem parts_le (r : Row) : (parts r).length ≤ 2 := by
  obtain ⟨w, o⟩ := r
  cases o <;> simp [parts]
theorem wt_num (n : Int) : wt ("num", n) = Str.ofString (toString n) := by
  refine ext_tl ?_
  rw [tl_wt, tl_int]
  have : tl (markOf (Str.ofString "num")) = [] := by decide +kernel
  show tl (markOf (Str.ofString "num")) ++ _ = _
  rw [this]
  rfl
theorem row_text1 (s : Str) : rowText (s, none) = s := by
  refine ext_tl ?_
  rw [tl_row]
  rfl
theorem row_text2 (s : Str) (n : Int) : rowText (s, some n) = s ++ " " ++ Str.ofString (toString n) := by
  refine ext_tl ?_
  rw [tl_row, tl_append, tl_append, tl_blank, List.append_assoc]
  rfl
def nums (r : Row) : List Int := match r.2 with | none => [] | some n => [n]
theorem cut1 (xs : List V) : cutV xs (some 1) none = xs.drop 1 := by
  unfold cutV
  rw [HT.sIx_none, show (1 : Int) = ((1 : Nat) : Int) from rfl, HT.sIx_nat]
  by_cases h : 1 ≤ xs.length
  · rw [Nat.min_eq_left h]
    exact List.take_of_length_le (by rw [List.length_drop]; exact Nat.le_refl _)
  · have : xs = [] := List.eq_nil_of_length_eq_zero (by omega)
    subst this
    rfl
theorem parts_tail (r : Row) : ((parts r).map V.str).drop 1 = ((nums r).map fun n => wt ("num", n)).map V.str := by
  obtain ⟨w, o⟩ := r
  cases o with
  | none => rfl
  | some n =>
    show [V.str (Str.ofString (toString n))] = [V.str (wt ("num", n))]
    rw [wt_num]
theorem rowV_nums (r : Row) : rowV r = .str r.1 :: (nums r).map V.int := by
  obtain ⟨w, o⟩ := r
  cases o <;> rfl
theorem good_num {n : Int} (l : -(10 ^ 60) < n) (u : n < 10 ^ 60) : Good ("num", n) := ⟨.inl rfl, .inl rfl, l, u⟩
/-! rows as data -/
def rowd (r : Row) : PyData := .tuple (.str r.1 :: (nums r).map PyData.int)
theorem RowAt.dp {K : PySem.W.Frag} {H : Hp} {v : V} {r : Row} (h : RowAt H v r) : Dp K H v (rowd r) := by
  obtain ⟨a, rfl, e⟩ := h
  rw [rowV_nums] at e
  exact .tup (.inl (.inl e)) (.cons (.str _) (rows_ints_dp _))
theorem rows_dp {K : PySem.W.Frag} {H : Hp} : ∀ {xs : List V} {rs : List Row}, Paired (RowAt H) xs rs → DpAll K H xs (rs.map rowd)
  | _, _, .nil => .nil
  | _, _, .cons a b => .cons a.dp (rows_dp b)
theorem small_ok {s : Str} (h : Small s) : PyData.strOk s = true := by
  unfold PyData.strOk
  rw [← Array.all_toList, List.all_eq_true]
  intro c mc
  have := h.2.2 c mc
  exact decide_eq_true (by omega)
theorem row_ok {m : Int} {r : Row} (g : GoodRow m r) : Ok 2 (rowd r) := .tuple (.cons (.str (small_ok g.small)) (.map fun n _ => .int n))
end G

namespace G
open PySem L2 PySem.Spec PyProof.Rows
/-! ### x != y of two lists that hold the very same things, of a dict and itself, of plain data -/
def idB : V → Bool
  | .ref _ => true
  | v => flatB v
theorem eqAt_id {A : Around} {s : Shared} {v : V} {u u' : Value} (r : RelV v u) (r' : RelV v u') (f : idB v = true) : SeqAt.EqAt A s u u' true := by
  cases v with
  | ref a =>
    cases (show u = Value.ref a from r)
    cases (show u' = Value.ref a from r')
    exact SeqAt.EqAt.same _
  | _ => exact eqAt_same r r' f
theorem items_id {A : Around} {s : Shared} : ∀ {xs : List V}, (∀ v ∈ xs, idB v = true) → ∀ {us ws : List Value}, Vals xs us → Vals xs ws → ∀ j (h1 : j < us.length) (h2 : j < ws.length), SeqAt.EqAt A s us[j] ws[j] true
  | [], _, _, _, r1, _, j, h1, _ => by
    cases r1
    exact absurd h1 (Nat.not_lt_zero j)
  | x :: xs, f, _, _, r1, r2, j, h1, h2 => by
    cases r1 with
    | cons a1 b1 =>
      cases r2 with
      | cons a2 b2 =>
        cases j with
        | zero => exact eqAt_id a1 a2 (f _ List.mem_cons_self)
        | succ j => exact items_id (fun v m => f v (List.mem_cons_of_mem _ m)) b1 b2 j (Nat.lt_of_succ_lt_succ h1) (Nat.lt_of_succ_lt_succ h2)
theorem hits_id {A : Around} {s : Shared} {kvs : List (Key × V)} {vb : List (Key × Value)} (rb : KV kvs vb) {ks : List (Key × V)} {va : List (Key × Value)} (ra : KV ks va) :
    (∀ p ∈ ks, valV kvs p.1 = some p.2 ∧ idB p.2 = true) → PySem.W.KeqHits A s vb va true := by
  unfold KV at ra
  induction ra with
  | nil => intro _; exact .nil
  | @cons p q ps qs h t ih =>
    intro hp
    obtain ⟨h1, h2⟩ := h
    obtain ⟨e, f⟩ := hp p List.mem_cons_self
    have rr : RelO (some p.2) (valueAt vb p.1) := by rw [← e]; exact rb.val p.1
    obtain ⟨y, hy, ry⟩ := rr.some_of
    obtain ⟨k, v⟩ := q
    have h1' : p.1 = k := h1
    rw [h1'] at hy
    show PySem.W.KeqHits A s vb ((k, v) :: qs) (true && true)
    exact .hit hy (eqAt_id h2 ry f) (ih fun p' hm => hp p' (List.mem_cons_of_mem _ hm))
/-- the same things within, so never unlike -/
def IdS (K : PySem.W.Frag) (H : Hp) (x y : V) : Prop :=
  (∃ a b xs, x = .ref a ∧ y = .ref b ∧ SqL K H a xs ∧ SqL K H b xs ∧ ∀ v ∈ xs, idB v = true) ∨
  ∃ a ks, x = .ref a ∧ y = .ref a ∧ H a = some (.dK ks) ∧ (ks.map (·.1)).Nodup ∧ ∀ p ∈ ks, idB p.2 = true
def rNeI (K : PySem.W.Frag) : R2 := fun x y H Q => (IdS K H x y ∧ Q (.bl false) H) ∨ rNeD K x y H Q
theorem op_neI {X : Cx} (hu : X.A.units + 64 < cLine) : OpR X (compareOp .NotEq) (rNeI X.K) := by
  intro pins s σ H x y v u Q I rx ry h
  rcases h with ⟨⟨a, b, xs, rfl, rfl, ha, hb, f⟩ | ⟨a, ks, rfl, rfl, ha, nd, f⟩, q⟩ | h
  · cases (show v = Value.ref a from rx)
    cases (show u = Value.ref b from ry)
    obtain ⟨us, r1, p1, _⟩ := I.list ha
    obtain ⟨ws, r2, p2, _⟩ := I.list hb
    have hsz : us.toArray.size = ws.toArray.size := by
      rw [List.size_toArray, List.size_toArray, ← r1.length, ← r2.length]
    refine SeqAt.RcNeAt.lists (e := fun _ => true) p1.isList p2.isList hsz (by omega) (fun j h1 h2 => ?_) X.prog X.w _ _ ?_
    · have k := items_id f (A := X.A.in1) (s := s) r1 r2 j (by simpa using h1) (by simpa using h2)
      simpa using k
    · rw [show ((List.range us.toArray.size).all fun _ => true) = true from List.all_eq_true.mpr fun _ _ => rfl]
      exact ⟨.bl false, H, I, rfl, q⟩
  · cases (show v = Value.ref a from rx)
    cases (show u = Value.ref a from ry)
    obtain ⟨_, ya, va, ra, da⟩ := (show ObjOk X.prog X.w H s.heap a (.dK ks) from I.hok a _ ha)
    exact PySem.W.keq_ne (knd := mixKind X.prog X.w) (r := true) ya ya da da (by omega) (fun _ => hits_id ra ra fun p hp => ⟨val_nodup nd p hp, f p hp⟩) (fin_bl I q (by simp))
  · exact op_neD hu pins s σ H x y v u Q I rx ry h
/-- row == (): of a tuple of any things -/
def rEqT0 (K : PySem.W.Frag) : R2 := fun x y H Q => ∃ a b xs, x = .ref a ∧ y = .ref b ∧ SqT K H a xs ∧ SqT K H b [] ∧ a ≠ b ∧ Q (.bl (decide (xs.length = 0))) H
theorem op_eqT0 {X : Cx} (hu : X.A.units + 64 < cLine) : OpR X (compareOp .Eq) (rEqT0 X.K) := by
  intro pins s σ H x y v u Q I rx ry h
  obtain ⟨a, b, xs, rfl, rfl, ha, hb, ne, q⟩ := h
  cases (show v = Value.ref a from rx)
  cases (show u = Value.ref b from ry)
  obtain ⟨us, r1, p1, _⟩ := I.tuple ha
  obtain ⟨ws, r2, p2, _⟩ := I.tuple hb
  cases r2
  have k := SeqAt.RcAt.tuples (A := X.A) (s := s) (e := fun _ => true) (show s.heap.IsTuple a us.toArray from p1) (show s.heap.IsTuple b #[] from p2) (by omega) (fun j h1 h2 => absurd h2 (by simp))
  refine k X.prog X.w _ _ ?_
  refine fin_bl I q ?_
  rw [r1.length]
  cases us <;> simp
end G

namespace G
open PySem L2
/-! ### things of any kind, rows of any things, lists of any rows -/
inductive Thg
  | s (w : Str)
  | i (n : Int)
  | o (T : String)
def Thg.kind : Thg → String
  | .s _ => "str"
  | .i _ => "int"
  | .o T => T
/-- a value that is neither a text nor a whole number -/
inductive OthV (H : Hp) : V → String → Prop
  | non : OthV H .non "NoneType"
  | bl (b : Bool) : OthV H (.bl b) "bool"
  | lst {a : Addr} {xs : List V} (h : H a = some (.lst xs)) : OthV H (.ref a) "list"
  | tup {a : Addr} {xs : List V} (h : H a = some (.tup xs)) : OthV H (.ref a) "tuple"
  | dK {a : Addr} {xs : List (Key × V)} (h : H a = some (.dK xs)) : OthV H (.ref a) "dict"
def ThgAt (H : Hp) (v : V) : Thg → Prop
  | .s w => v = .str w
  | .i n => v = .int n
  | .o T => OthV H v T
section
variable {K : PySem.W.Frag} {H H' : Hp} {v : V} {x : Thg}
theorem ThgAt.same (s : Same H H') (h : ThgAt H v x) : ThgAt H' v x := by
  cases x with
  | s w => exact h
  | i n => exact h
  | o T =>
    have g : OthV H v T := h
    cases g with
    | non => exact .non
    | bl b => exact .bl b
    | lst e => exact .lst (s _ _ e)
    | tup e => exact .tup (s _ _ e)
    | dK e => exact .dK (s _ _ e)
theorem ThgAt.ty (h : ThgAt H v x) : TyX K H v (.type x.kind) := by
  cases x with
  | s w =>
    cases (show v = _ from h)
    exact ty_str
  | i n =>
    cases (show v = _ from h)
    exact ty_int
  | o T =>
    have g : OthV H v T := h
    cases g with
    | non => exact ty_non
    | bl b => exact ty_bl
    | lst e => exact ty_lst e
    | tup e => exact ty_tup e
    | dK e => exact ty_dK e
theorem ThgAt.k7 (h : ThgAt H v x) : x.kind ∈ kinds7 := by
  cases x with
  | s w => show "str" ∈ kinds7; decide
  | i n => show "int" ∈ kinds7; decide
  | o T =>
    have g : OthV H v T := h
    show T ∈ kinds7
    cases g <;> decide
theorem ThgAt.idB (h : ThgAt H v x) : idB v = true := by
  cases x with
  | s w =>
    cases (show v = _ from h)
    rfl
  | i n =>
    cases (show v = _ from h)
    rfl
  | o T =>
    have g : OthV H v T := h
    cases g <;> rfl
theorem ThgAt.noS {T : String} (h : ThgAt H v (.o T)) : (T == "str") = false := by
  have g : OthV H v T := h
  cases g <;> decide
theorem ThgAt.noI {T : String} (h : ThgAt H v (.o T)) : (T == "int") = false := by
  have g : OthV H v T := h
  cases g <;> decide
end
inductive Rx
  | tup (l : List Thg)
  | oth (x : Thg)
inductive RxAt (H : Hp) : V → Rx → Prop
  | tup {a : Addr} {xs : List V} {l : List Thg} (h : H a = some (.tup xs)) (p : Paired (ThgAt H) xs l) : RxAt H (.ref a) (.tup l)
  | oth {v : V} {x : Thg} (h : ThgAt H v x) (n : (x.kind == "tuple") = false) : RxAt H v (.oth x)
inductive Tg
  | rows (l : List Rx)
  | oth (x : Thg)
inductive TgAt (H : Hp) : V → Tg → Prop
  | rows {a : Addr} {xs : List V} {l : List Rx} (h : H a = some (.lst xs)) (p : Paired (RxAt H) xs l) : TgAt H (.ref a) (.rows l)
  | oth {v : V} {x : Thg} (h : ThgAt H v x) (n : (x.kind == "list") = false) : TgAt H v (.oth x)
theorem RxAt.same {H H' : Hp} {v : V} {r : Rx} (s : Same H H') (h : RxAt H v r) : RxAt H' v r := by
  cases h with
  | tup h p => exact .tup (s _ _ h) (Paired.mapP p fun _ _ => ThgAt.same s)
  | oth h n => exact .oth (h.same s) n
theorem TgAt.same {H H' : Hp} {v : V} {r : Tg} (s : Same H H') (h : TgAt H v r) : TgAt H' v r := by
  cases h with
  | rows h p => exact .rows (s _ _ h) (Paired.mapP p fun _ _ => RxAt.same s)
  | oth h n => exact .oth (h.same s) n
theorem RxAt.idB {H : Hp} {v : V} {r : Rx} (h : RxAt H v r) : idB v = true := by
  cases h with
  | tup h p => rfl
  | oth h n => exact h.idB
def rw2 (many : Int) (w : Str) (n : Int) : Bool := if w = "put" then true else if w ∈ reaching then decide (0 ≤ n) else decide (w ∈ leading) && (decide (0 ≤ n) && decide (n ≤ many))
def rxOk (many : Int) : Rx → Bool
  | .tup [.s w] => decide (w ∈ bare)
  | .tup [.s w, .i n] => rw2 many w n
  | _ => false
def tgOk : Tg → Bool
  | .rows l => l.all (rxOk (l.length : Int))
  | .oth _ => false
def rxOf (r : Row) : Rx := .tup (.s r.1 :: (match r.2 with | none => [] | some n => [.i n]))
theorem RowAt.rx {H : Hp} {v : V} {r : Row} (h : RowAt H v r) : RxAt H v (rxOf r) := by
  obtain ⟨a, rfl, e⟩ := h
  obtain ⟨w, n⟩ := r
  cases n with
  | none => exact .tup e (.cons rfl .nil)
  | some n => exact .tup e (.cons rfl (.cons rfl .nil))
theorem nput_of {w : Str} (h : w ∈ reaching ++ leading) : w ≠ "put" := by
  intro e
  subst e
  exact absurd h (by decide +kernel)
theorem nreach_of {w : Str} (h : w ∈ leading) : w ∉ reaching := by
  intro e
  revert h e
  unfold leading reaching
  simp only [List.mem_cons, List.not_mem_nil, or_false]
  rintro (rfl | rfl | rfl | rfl) <;> decide
theorem GoodRow.rx {m : Int} {r : Row} (g : GoodRow m r) : rxOk m (rxOf r) = true := by
  cases g with
  | bare h => exact decide_eq_true h
  | put l h => rfl
  | reach h l u =>
    show rw2 _ _ _ = true
    unfold rw2
    rw [if_neg (nput_of (List.mem_append_left _ h)), if_pos h]
    exact decide_eq_true l
  | lead h l u k =>
    show rw2 _ _ _ = true
    unfold rw2
    rw [if_neg (nput_of (List.mem_append_right _ h)), if_neg (nreach_of h), decide_eq_true h, decide_eq_true l, decide_eq_true u]
    rfl
end G
namespace G
open PySem L2
/-- unlike itself it is never told to be -/
def NeOk (K : PySem.W.Frag) (H : Hp) (v : V) : Prop := IdS K H v v ∨ ∃ d, Dp K H v d ∧ SeqAt.shaped d = true
theorem r_neOk {K : PySem.W.Frag} {H : Hp} {Q : VK} {v : V} (h : NeOk K H v) (q : Q (.bl false) H) : rNeI K v v H Q := by
  rcases h with h | ⟨d, h, s⟩
  · exact .inl ⟨h, q⟩
  · refine .inr ⟨d, d, h, h, s, s, ?_⟩
    unfold SeqAt.shaped at s
    rw [PySem.SeqAt.eqv_refl d (by
      rw [Bool.and_eq_true] at s
      exact s.1)]
    exact q
inductive TgR (K : PySem.W.Frag) (H : Hp) : V → Tg → Prop
  | rows {a : Addr} {xs : List V} {l : List Rx} (h : H a = some (.lst xs)) (p : Paired (RxAt H) xs l) : TgR K H (.ref a) (.rows l)
  | oth {v : V} {x : Thg} (h : ThgAt H v x) (n : (x.kind == "list") = false) (s : NeOk K H v) : TgR K H v (.oth x)
theorem TgR.tg {K : PySem.W.Frag} {H : Hp} {v : V} {t : Tg} (h : TgR K H v t) : TgAt H v t := by
  cases h with
  | rows h p => exact .rows h p
  | oth h n s => exact .oth h n
theorem IdS.same {K : PySem.W.Frag} {H H' : Hp} {v u : V} (s : Same H H') (h : IdS K H v u) : IdS K H' v u := by
  rcases h with ⟨a, b, xs, rfl, rfl, ha, hb, f⟩ | ⟨a, ks, rfl, rfl, ha, nd, f⟩
  · exact .inl ⟨a, b, xs, rfl, rfl, s.seq ha, s.seq hb, f⟩
  · exact .inr ⟨a, ks, rfl, rfl, s _ _ ha, nd, f⟩
theorem rows_rx {H : Hp} {xs : List V} {rs : List Row} (h : Paired (RowAt H) xs rs) : Paired (RxAt H) xs (rs.map rxOf) := by
  induction h with
  | nil => exact .nil
  | cons a _ k => exact .cons a.rx k
theorem paired_id {H : Hp} {xs : List V} {l : List Rx} (h : Paired (RxAt H) xs l) : ∀ v ∈ xs, idB v = true := by
  induction h with
  | nil => exact fun v m => (List.not_mem_nil m).elim
  | cons a _ k => exact fun v m => (List.mem_cons.mp m).elim (fun e => e ▸ a.idB) (k v)
end G
namespace G
open PySem L2
theorem pair_take {α β : Type} {F : α → β → Prop} : ∀ {xs : List α} {ys : List β} (i : Nat), Paired F xs ys → ∃ zs, Paired F (xs.take i) zs
  | _, _, 0, _ => ⟨[], .nil⟩
  | _, _, _ + 1, .nil => ⟨[], .nil⟩
  | _, _, n + 1, .cons a r => (pair_take n r).elim fun zs h => ⟨_ :: zs, .cons a h⟩
theorem pair_drop {α β : Type} {F : α → β → Prop} : ∀ {xs : List α} {ys : List β} (i : Nat), Paired F xs ys → ∃ zs, Paired F (xs.drop i) zs
  | _, ys, 0, h => ⟨ys, h⟩
  | _, _, _ + 1, .nil => ⟨[], .nil⟩
  | _, _, n + 1, .cons _ r => pair_drop n r
theorem pair_cut {H : Hp} {xs : List V} {ys : List Rx} (h : Paired (RxAt H) xs ys) (lo hi : Option Int) : ∃ zs, Paired (RxAt H) (cutV xs lo hi) zs := by
  unfold cutV
  obtain ⟨zs, h1⟩ := pair_drop (HT.sIx xs.length 0 lo) h
  exact pair_take _ h1
end G
namespace G
open PySem L2
theorem seqT_same {K : PySem.W.Frag} {H H' : Hp} {a : Addr} {xs : List V} (s : Same H H') (h : SqT K H a xs) : SqT K H' a xs := by
  rcases h with (h | ⟨o, h⟩) | h
  · exact .inl (.inl (s _ _ h))
  · exact .inl (.inr ⟨o, s _ _ h⟩)
  · exact .inr h
mutual
theorem dp_same {K : PySem.W.Frag} {H H' : Hp} (s : Same H H') : ∀ (d : PyData) (v : V), Dp K H v d → Dp K H' v d
  | .none, _, h => by
    cases h
    exact .non
  | .bool b, _, h => by
    cases h
    exact .bl b
  | .int i, _, h => by
    cases h
    exact .int i
  | .str x, _, h => by
    cases h
    exact .str x
  | .list ds, _, h => by
    cases h with
    | lst e r => exact .lst (s.seq e) (dp_sameAll s ds _ r)
  | .tuple ds, _, h => by
    cases h with
    | tup e r => exact .tup (seqT_same s e) (dp_sameAll s ds _ r)
  | .dict _, _, h => nomatch h
theorem dp_sameAll {K : PySem.W.Frag} {H H' : Hp} (s : Same H H') : ∀ (ds : List PyData) (vs : List V), DpAll K H vs ds → DpAll K H' vs ds
  | [], _, h => by
    cases h
    exact .nil
  | d :: ds, _, h => by
    cases h with
    | cons a b => exact .cons (dp_same s d _ a) (dp_sameAll s ds _ b)
end
theorem NeOk.same {K : PySem.W.Frag} {H H' : Hp} {v : V} (s : Same H H') (h : NeOk K H v) : NeOk K H' v := by
  rcases h with h | ⟨d, h, e⟩
  · exact .inl (h.same s)
  · exact .inr ⟨d, dp_same s _ _ h, e⟩
end G

namespace Q

open PySem L2 G TL
def top (i : Nat) : Stmt := PySem.Challenge.pw_manygoings_k47_what_is_a_program.main.body.getD i (.Pass ⟨0, 0, 0, 0⟩)
section
variable {P : Program} {w : World} {K : PySem.W.Frag} {mg : Str → Option Value} {base : Heap}

/-! ### is_whole -/
abbrev s_is_whole : Stmt := top 1
theorem sc_is_whole : FnScope ["thing"] ["thing"] (defScope s_is_whole) := ⟨rfl, rfl, rfl, by decide +kernel, rfl, by decide +kernel, by decide +kernel⟩
def sp_is_whole (K : PySem.W.Frag) : Sp := fun vs H Q _ => ∃ (v : V) (T : String), vs = [v] ∧ TyX K H v (.type T) ∧ T ∈ kinds7 ∧ Q (.bl (T == "int")) H
theorem ok_is_whole {fa : Addr} {fd : FuncData} (F : Fun K "is_whole" "is_whole" s_is_whole fa fd) (TX : Tx mg) :
    FnOk P w K mg base CX0 1 fa fd ["thing"] (sp_is_whole K) := by
  refine F.ok sc_is_whole (fun vs H Q E h => ?_) (fun cdv A outer s H vs Q E hr h => ?_)
  · obtain ⟨v, T, rfl, hT, hm, q⟩ := h
    rfl
  · obtain ⟨v, T, rfl, hT, hm, q⟩ := h
    have hu := hu_of hr
    have hu64 := hr.units
    have hu65 := hu65_of hr
    rw [← whole_of T hm] at q
    refine ⟨_, (pss_one (ps_ret (pe_and (pe_callB call_isi (by rfl) TX.n_isinstance (by decide +kernel) (pa_cons (pv 0) (pa_cons (pe_bltn (v := .ty "int") (by rfl) TX.n_int (by decide +kernel) rfl) pa_nil))) (pe_one (pe_not (pe_callB call_isi (by rfl) TX.n_isinstance (by decide +kernel) (pa_cons (pv 0) (pa_cons (pe_bltn (v := .ty "bool") (by rfl) TX.n_bool (by decide +kernel) rfl) pa_nil)))))))), ?_⟩
    refine r_begin (show L2.start _ _ = [some _] from rfl) ?_
    try dsimp only [cxOf]
    walk_at "rr"
    refine r_isi hT (kit_int T hm) ?_
    walk_at "rr"
    refine r_ite (fun hc => ?_) (fun hc => ?_)
    · walk_at "rr"
      refine r_isi hT (kit_bool T hm) ?_
      walk_at "rr"
      rw [hc, Bool.true_and] at q
      exact q
    · rw [hc, Bool.false_and] at q
      exact q
/-! ### is_row -/
abbrev s_is_row : Stmt := top 6
theorem sc_is_row : FnScope ["thing", "many"] ["thing", "many"] (defScope s_is_row) := ⟨rfl, rfl, rfl, by decide +kernel, rfl, by decide +kernel, by decide +kernel⟩
def sp_is_row (_ : PySem.W.Frag) : Sp := fun vs H Q _ => ∃ (v : V) (r : Rx) (many : Int), vs = [v, .int many] ∧ RxAt H v r ∧ Q (.bl (rxOk many r)) H
theorem ok_is_row {fa : Addr} {fd : FuncData} (F : Fun K "is_row" "is_row" s_is_row fa fd) (TX : Tx mg)
    (C_is_whole : Cal P w K mg base CX0 1 "is_whole" ["thing"] (sp_is_whole K))
    {aRe aLe2 aBa : Addr}
    (g_REACHING : mg "REACHING" = some (.ref aRe))
    (g_LEADING : mg "LEADING" = some (.ref aLe2))
    (g_BARE : mg "BARE" = some (.ref aBa))
    (t_REACHING : TopT K aRe reaching)
    (t_LEADING : TopT K aLe2 leading)
    (t_BARE : TopT K aBa bare) :
    FnOk P w K mg base CX0 2 fa fd ["thing", "many"] (sp_is_row K) := by
  refine F.ok sc_is_row (fun vs H Q E h => ?_) (fun cdv A outer s H vs Q E hr h => ?_)
  · obtain ⟨v, r, many, rfl, hw, q⟩ := h
    rfl
  · obtain ⟨v, r, many, rfl, hw, q⟩ := h
    have hu := hu_of hr
    have hu64 := hr.units
    have hu65 := hu65_of hr
    refine ⟨_, (pss_cons (ps_if (PW.pt (pw_or (pt_not (pt_val (pe_callB call_isi (by rfl) TX.n_isinstance (by decide +kernel) (pa_cons (pv 0) (pa_cons (pe_bltn (v := .ty "tuple") (by rfl) TX.n_tuple (by decide +kernel) rfl) pa_nil))))) (pw_or (pt_cmpR op_lt (pe_callB call_len (by rfl) TX.n_len (by decide +kernel) (pa_cons (pv 0) pa_nil)) pe_int (nomark _)) (pw_or1 (pt_cmpR op_gt (pe_callB call_len (by rfl) TX.n_len (by decide +kernel) (pa_cons (pv 0) pa_nil)) pe_int (nomark _)))))) (pss_one (ps_ret pe_bl)) pss_nil)
  (pss_cons (ps_if (pt_not (pt_val (pe_callB call_isi (by rfl) TX.n_isinstance (by decide +kernel) (pa_cons (pe_ix ix_tup (pv 0) pe_int (fun _ _ => rfl)) (pa_cons (pe_bltn (v := .ty "str") (by rfl) TX.n_str (by decide +kernel) rfl) pa_nil))))) (pss_one (ps_ret pe_bl)) pss_nil)
  (pss_cons (ps_if (pt_cmpR op_eq (pe_callB call_len (by rfl) TX.n_len (by decide +kernel) (pa_cons (pv 0) pa_nil)) pe_int (nomark _)) (pss_one (ps_ret (pe_cmpR op_in_seq (pe_ix ix_tup (pv 0) pe_int (fun _ _ => rfl)) (pe_glob (v := .ref _) (by rfl) g_BARE rfl) (by rfl)))) pss_nil)
  (pss_cons (ps_if (pt_not (pt_val (pe_cal C_is_whole (hr.mono (by decide)) (by rfl) pass0 (pa_cons (pe_ix ix_tup (pv 0) pe_int (fun _ _ => rfl)) pa_nil)))) (pss_one (ps_ret pe_bl)) pss_nil)
  (pss_cons (ps_if (pt_cmpR op_eq (pe_ix ix_tup (pv 0) pe_int (fun _ _ => rfl)) pe_str (nomark _)) (pss_one (ps_ret pe_bl)) pss_nil)
  (pss_cons (ps_if (pt_cmpR op_in_seq (pe_ix ix_tup (pv 0) pe_int (fun _ _ => rfl)) (pe_glob (v := .ref _) (by rfl) g_REACHING rfl) (by rfl)) (pss_one (ps_ret (pe_cmpR op_ge (pe_ix ix_tup (pv 0) pe_int (fun _ _ => rfl)) pe_int (nomark _)))) pss_nil)
  (pss_one (ps_ret (pe_and (pe_cmpR op_in_seq (pe_ix ix_tup (pv 0) pe_int (fun _ _ => rfl)) (pe_glob (v := .ref _) (by rfl) g_LEADING rfl) (by rfl)) (pe_one (pe_chain op_le op_le pe_int (pe_ix ix_tup (pv 0) pe_int (fun _ _ => rfl)) (pv 1)))))))))))), ?_⟩
    refine r_begin (show L2.start _ _ = [some _, some _] from rfl) ?_
    try dsimp only [cxOf]
    walk_at "rr"
    cases hw with
    | oth h n =>
      refine r_isi h.ty (kit_tuple _ h.k7) ?_
      rw [n]
      walk_at "rr"
      (try refine r_itT rfl ?_)
      walk_at "rr"
      exact q
    | @tup a xs l ea p =>
    refine r_isi (ty_tup ea) (kit_tuple _ (by decide)) ?_
    walk_at "rr"
    refine r_itF rfl ?_
    walk_at "rr"
    refine r_lent ea ?_
    walk_at "rr"
    match l, xs, p, ea, q with
    | [], _, .nil, ea, q =>
      refine r_itT (by rfl) ?_
      walk_at "rr"
      exact q
    | [x], _, .cons (a := v) hx .nil, ea, q =>
      refine r_itF (by rfl) ?_
      walk_at "rr"
      refine r_lent ea ?_
      walk_at "rr"
      refine r_itF (by rfl) ?_
      walk_at "rr"
      (try refine r_ixt ea rfl ?_)
      walk_at "rr"
      refine r_isi hx.ty (kit_str _ hx.k7) ?_
      walk_at "rr"
      cases x with
      | o T =>
        (try rw [show ((Thg.o T).kind == "str") = false from hx.noS])
        (try refine r_itT (by rfl) ?_)
        walk_at "rr"
        exact q
      | i m =>
        (try rw [show ((Thg.o T).kind == "str") = false from hx.noS])
        (try refine r_itT (by rfl) ?_)
        walk_at "rr"
        exact q
      | s w =>
        cases (show v = _ from hx)
        refine r_itF (by rfl) ?_
        walk_at "rr"
        refine r_lent ea ?_
        walk_at "rr"
        refine r_itT (by rfl) ?_
        walk_at "rr"
        (try refine r_ixt ea rfl ?_)
        walk_at "rr"
        refine ⟨aBa, _, rfl, .inr t_BARE.at, rfl, by decide, ?_⟩
        rw [inV_strs]
        exact q
    | [x, y], _, .cons (a := v) hx (.cons (a := u) hy .nil), ea, q =>
      refine r_itF (by rfl) ?_
      walk_at "rr"
      refine r_lent ea ?_
      walk_at "rr"
      refine r_itF (by rfl) ?_
      walk_at "rr"
      (try refine r_ixt ea rfl ?_)
      walk_at "rr"
      refine r_isi hx.ty (kit_str _ hx.k7) ?_
      walk_at "rr"
      cases x with
      | o T =>
        (try rw [show ((Thg.o T).kind == "str") = false from hx.noS])
        (try refine r_itT (by rfl) ?_)
        walk_at "rr"
        exact q
      | i m =>
        (try rw [show ((Thg.o T).kind == "str") = false from hx.noS])
        (try refine r_itT (by rfl) ?_)
        walk_at "rr"
        exact q
      | s w =>
        cases (show v = _ from hx)
        refine r_itF (by rfl) ?_
        walk_at "rr"
        refine r_lent ea ?_
        walk_at "rr"
        refine r_itF (by rfl) ?_
        walk_at "rr"
        (try refine r_ixt ea rfl ?_)
        walk_at "rr"
        refine ⟨_, _, rfl, hy.ty, hy.k7, ?_⟩
        walk_at "rr"
        cases y with
        | o T =>
          rw [show ((Thg.o T).kind == "int") = false from hy.noI]
          (try refine r_itT rfl ?_)
          walk_at "rr"
          exact q
        | s z =>
          (try refine r_itT (by rfl) ?_)
          walk_at "rr"
          exact q
        | i n =>
        cases (show u = _ from hy)
        have q : Q (.bl (rw2 many w n)) H := q
        unfold rw2 at q
        refine r_itF (by rfl) ?_
        walk_at "rr"
        (try refine r_ixt ea rfl ?_)
        walk_at "rr"
        (try rw [dstr])
        by_cases hp : w = "put"
        · rw [if_pos hp] at q
          refine r_itT (decide_eq_true hp) ?_
          walk_at "rr"
          exact q
        rw [if_neg hp] at q
        refine r_itF (decide_eq_false hp) ?_
        walk_at "rr"
        (try refine r_ixt ea rfl ?_)
        walk_at "rr"
        refine ⟨aRe, _, rfl, .inr t_REACHING.at, rfl, by decide, ?_⟩
        rw [inV_strs]
        refine r_bl ?_
        by_cases hr1 : w ∈ reaching
        · rw [if_pos hr1] at q
          rw [decide_eq_true hr1]
          refine r_itT rfl ?_
          walk_at "rr"
          (try refine r_ixt ea rfl ?_)
          walk_at "rr"
          exact q
        rw [if_neg hr1] at q
        rw [decide_eq_false hr1]
        refine r_itF rfl ?_
        walk_at "rr"
        (try refine r_ixt ea rfl ?_)
        walk_at "rr"
        refine ⟨aLe2, _, rfl, .inr t_LEADING.at, rfl, by decide, ?_⟩
        rw [inV_strs]
        (try refine r_bl ?_)
        by_cases hl : w ∈ leading
        · rw [decide_eq_true hl, Bool.true_and] at q
          rw [decide_eq_true hl]
          (try refine r_itT rfl ?_)
          walk_at "rr"
          (try refine r_ixt ea rfl ?_)
          walk_at "rr"
          by_cases h0 : 0 ≤ n
          · rw [decide_eq_true h0, Bool.true_and] at q
            refine r_itT (decide_eq_true h0) ?_
            walk_at "rr"
            (try refine r_ixt ea rfl ?_)
            walk_at "rr"
            exact q
          · rw [decide_eq_false h0, Bool.false_and] at q
            refine r_itF (decide_eq_false h0) ?_
            walk_at "rr"
            exact q
        · rw [decide_eq_false hl, Bool.false_and] at q
          rw [decide_eq_false hl]
          (try refine r_itF rfl ?_)
          walk_at "rr"
          exact q
    | x :: y :: z :: l, _, p, ea, q =>
      have lx : (x :: y :: z :: l).length = _ := (Paired.length p).symm
      rw [show rxOk many (.tup (x :: y :: z :: l)) = false by cases x <;> first | rfl | (cases y <;> rfl)] at q
      rw [← lx]
      refine r_itF (decide_eq_false (by show ¬ ((((x :: y :: z :: l).length : Nat) : Int) < 1); rw [List.length_cons, List.length_cons, List.length_cons]; omega)) ?_
      walk_at "rr"
      refine r_lent ea ?_
      rw [← lx]
      walk_at "rr"
      refine r_itT (decide_eq_true (by show (((x :: y :: z :: l).length : Nat) : Int) > 2; rw [List.length_cons, List.length_cons, List.length_cons]; omega)) ?_
      walk_at "rr"
      exact q
/-! ### is_program -/
abbrev s_is_program : Stmt := top 7
theorem sc_is_program : FnScope ["thing", "row"] ["thing"] (defScope s_is_program) := ⟨rfl, rfl, rfl, by decide +kernel, rfl, by decide +kernel, by decide +kernel⟩
def sp_is_program (_ : PySem.W.Frag) : Sp := fun vs H Q _ => ∃ (v : V) (t : Tg), vs = [v] ∧ TgAt H v t ∧ Q (.bl (tgOk t)) H
theorem ok_is_program {fa : Addr} {fd : FuncData} (F : Fun K "is_program" "is_program" s_is_program fa fd) (TX : Tx mg)
    (C_is_row : Cal P w K mg base CX0 2 "is_row" ["thing", "many"] (sp_is_row K)) :
    FnOk P w K mg base CX0 3 fa fd ["thing"] (sp_is_program K) := by
  refine F.ok sc_is_program (fun vs H Q E h => ?_) (fun cdv A outer s H vs Q E hr h => ?_)
  · obtain ⟨v, t, rfl, ht, q⟩ := h
    rfl
  · obtain ⟨v, t, rfl, ht, q⟩ := h
    have hu := hu_of hr
    have hu64 := hr.units
    have hu65 := hu65_of hr
    refine ⟨_, (pss_cons (ps_if (pt_not (pt_val (pe_callB call_isi (by rfl) TX.n_isinstance (by decide +kernel) (pa_cons (pv 0) (pa_cons (pe_bltn (v := .ty "list") (by rfl) TX.n_list (by decide +kernel) rfl) pa_nil))))) (pss_one (ps_ret pe_bl)) pss_nil)
  (pss_cons (ps_for PassesOwn.never rfl (pi_list (pv 0)) (pg_name (i := 1) sc_is_program.nd rfl (Or.inl rfl))
  (pss_one (ps_if (pt_not (pt_val (pe_cal C_is_row (hr.mono (by decide)) (by rfl) pass0 (pa_cons (pv 1) (pa_cons (pe_callB call_len (by rfl) TX.n_len (by decide +kernel) (pa_cons (pv 0) pa_nil)) pa_nil))))) (pss_one (ps_ret pe_bl)) pss_nil)))
  (pss_one (ps_ret pe_bl)))), ?_⟩
    refine r_begin (show L2.start _ _ = [some _, none] from rfl) ?_
    try dsimp only [cxOf]
    walk_at "rr"
    cases ht with
    | oth h n =>
      refine r_isi h.ty (kit_list _ h.k7) ?_
      rw [n]
      walk_at "rr"
      (try refine r_itT rfl ?_)
      walk_at "rr"
      exact q
    | @rows a xs rs ea wr =>
    have lx := Paired.length wr
    have q : Q (.bl (rs.all (rxOk (rs.length : Int)))) H := q
    refine r_isi (ty_lst ea) (kit_list _ (by decide)) ?_
    walk_at "rr"
    refine r_itF rfl ?_
    walk_at "rr"
    refine r_ilw ea ?_
    refine L_list (xs := xs) (fun i σ H1 => (∃ (u : Option V), σ = [some (.ref a), u]) ∧ H1 = H ∧ (rs.take i).all (rxOk (rs.length : Int)) = true) ⟨⟨_, rfl⟩, rfl, rfl⟩ ?_ ?_ ?_
    · rintro i σ H1 hi ⟨⟨u, rfl⟩, rfl, hall⟩
      exact .inl (.inl ea)
    · rintro i x σ H1 hx ⟨⟨u, rfl⟩, rfl, hall⟩
      obtain ⟨r, er, hr⟩ := L2.paired_get wr hx
      walk_at "rr"
      refine r_lenl ea ?_
      walk_at "rr"
      refine ⟨x, r, _, rfl, hr, ?_⟩
      rw [lx]
      cases ho : rxOk (rs.length : Int) r with
      | true =>
        walk_at "rr"
        (try refine r_itF rfl ?_)
        walk_at "rr"
        refine ⟨⟨_, rfl⟩, rfl, ?_⟩
        rw [List.take_add_one, er, List.all_append, hall]
        simpa using ho
      | false =>
        walk_at "rr"
        (try refine r_itT rfl ?_)
        walk_at "rr"
        have : rs.all (rxOk (rs.length : Int)) = false := List.all_eq_false.mpr ⟨r, List.mem_of_getElem? er, by rw [ho]; decide⟩
        rw [← this]
        exact q
    · rintro σ H1 ⟨⟨u, rfl⟩, rfl, hall⟩
      rw [lx, List.take_length] at hall
      walk_at "rr"
      rw [← hall]
      exact q
/-! ### _law_cell_at -/
abbrev s__law_cell_at : Stmt := top 9
theorem sc__law_cell_at : FnScope ["script", "k"] ["script", "k"] (defScope s__law_cell_at) := ⟨rfl, rfl, rfl, by decide +kernel, rfl, by decide +kernel, by decide +kernel⟩
def sp__law_cell_at (K : PySem.W.Frag) : Sp := fun vs H Q _ => ∃ (a : Addr) (ns : List Int) (k : Int), vs = [.ref a, .int k] ∧ SqL K H a (ns.map V.int) ∧ 0 ≤ k ∧ ns.length ≤ 63 ∧ ∀ c : Int, Q (.int c) H
theorem ok__law_cell_at {fa : Addr} {fd : FuncData} (F : Fun K "_law_cell_at" "_law_cell_at" s__law_cell_at fa fd) (TX : Tx mg) :
    FnOk P w K mg base CX0 1 fa fd ["script", "k"] (sp__law_cell_at K) := by
  refine F.ok sc__law_cell_at (fun vs H Q E h => ?_) (fun cdv A outer s H vs Q E hr h => ?_)
  · obtain ⟨a, ns, k, rfl, hS, hk, hn, q⟩ := h
    rfl
  · obtain ⟨a, ns, k, rfl, hS, hk, hn, q⟩ := h
    have hu := hu_of hr
    have hu64 := hr.units
    have hu65 := hu65_of hr
    refine ⟨_, (pss_cons (ps_if (pt_cmpR op_lt (pv 1) (pe_callB call_len (by rfl) TX.n_len (by decide +kernel) (pa_cons (pv 0) pa_nil)) (nomark _)) (pss_one (ps_ret (pe_ix ix_list (pv 0) (pv 1) (fun _ _ => rfl)))) pss_nil)
  (pss_one (ps_ret pe_int))), ?_⟩
    refine r_begin (show L2.start _ _ = [some _, some _] from rfl) ?_
    try dsimp only [cxOf]
    walk_at "rr"
    refine ⟨_, _, rfl, .inl ⟨_, hS, rfl⟩, ?_⟩
    walk_at "rr"
    refine r_d (fun hc => ?_) (fun hc => ?_)
    · walk_at "rr"
      rw [List.length_map] at hc
      obtain ⟨j, rfl⟩ : ∃ j : Nat, k = (j : Int) := ⟨k.toNat, by omega⟩
      have hj : j < ns.length := by omega
      have e : (ns.map V.int)[j]? = some (.int ns[j]) := by
        rw [List.getElem?_map, List.getElem?_eq_getElem hj]
        rfl
      refine r_ixL hS (atI_nat e) ?_
      exact q _
    · walk_at "rr"
      exact q _
/-! ### _law_bag -/
abbrev s__law_bag : Stmt := top 10
theorem sc__law_bag : FnScope ["cell"] ["cell"] (defScope s__law_bag) := ⟨rfl, rfl, rfl, by decide +kernel, rfl, by decide +kernel, by decide +kernel⟩
def sp__law_bag (_ : PySem.W.Frag) : Sp := fun vs H Q _ => ∃ (c : Int), vs = [.int c] ∧ ∀ (p : Addr) (H' : Hp), H p = none → Same H H' → BagAt H' p 0 → Q (.ref p) H'
theorem ok__law_bag {fa : Addr} {fd : FuncData} (F : Fun K "_law_bag" "_law_bag" s__law_bag fa fd) (TX : Tx mg) :
    FnOk P w K mg base CX0 1 fa fd ["cell"] (sp__law_bag K) := by
  refine F.ok sc__law_bag (fun vs H Q E h => ?_) (fun cdv A outer s H vs Q E hr h => ?_)
  · obtain ⟨c, rfl, q⟩ := h
    rfl
  · obtain ⟨c, rfl, q⟩ := h
    have hu := hu_of hr
    have hu64 := hr.units
    have hu65 := hu65_of hr
    refine ⟨_, (pss_one (ps_ret (pe_lst (pa_cons (pe_callB (call_max2 rfl) (by rfl) TX.n_max (by decide +kernel) (pa_cons pe_int (pa_cons (pe_op op_sub (pv 0) (pe_op op_pow pe_int pe_int)) pa_nil))) (pa_cons (pe_op op_mod (pv 0) pe_int) (pa_cons pe_int pa_nil)))))), ?_⟩
    refine r_begin (show L2.start _ _ = [some _] from rfl) ?_
    try dsimp only [cxOf]
    walk_at "rr"
    refine ⟨_, _, rfl, ?_⟩
    walk_at "rr"
    refine ⟨by show 3 ≤ sizeLine; decide, fun p hp => ?_⟩
    have g := Int.emod_nonneg c (show (1000000007 : Int) ≠ 0 by decide)
    have g2 := Int.emod_lt_of_pos c (show (0 : Int) < 1000000007 by decide)
    exact q p _ hp (same_new hp) ⟨_, _, _, upd_same, by omega, by omega, by omega, by omega⟩
/-! ### _law_draw -/
abbrev s__law_draw : Stmt := top 11
theorem sc__law_draw : FnScope ["bag", "many", "one"] ["bag", "many"] (defScope s__law_draw) := ⟨rfl, rfl, rfl, by decide +kernel, rfl, by decide +kernel, by decide +kernel⟩
def sp__law_draw (_ : PySem.W.Frag) : Sp := fun vs H Q _ => ∃ (p : Addr) (m : Int) (n : Nat), vs = [.ref p, .int m] ∧ BagAt H p n ∧ 0 < m ∧ m.natAbs < 2 ^ 220 ∧ n < 1000000000 ∧
  ∀ (i : Int) (H' : Hp), 0 ≤ i → i < m → But p H H' → BagAt H' p (n + 1) → Q (.int i) H'
theorem ok__law_draw {fa : Addr} {fd : FuncData} (F : Fun K "_law_draw" "_law_draw" s__law_draw fa fd) (TX : Tx mg) :
    FnOk P w K mg base CX0 1 fa fd ["bag", "many"] (sp__law_draw K) := by
  refine F.ok sc__law_draw (fun vs H Q E h => ?_) (fun cdv A outer s H vs Q E hr h => ?_)
  · obtain ⟨p, m, n, rfl, ⟨a, b, c, eb, h1, h2, h3, h4⟩, hm, hm2, hn, k⟩ := h
    rfl
  · obtain ⟨p, m, n, rfl, ⟨a, b, c, eb, h1, h2, h3, h4⟩, hm, hm2, hn, k⟩ := h
    have hu := hu_of hr
    have hu64 := hr.units
    have hu65 := hu65_of hr
    refine ⟨_, (pss_cons (ps_if (pt_cmpR op_gt (pe_ix ix_list (pv 0) pe_int (fun _ _ => rfl)) pe_int (nomark _)) (pss_cons (ps_set (i := 2) sc__law_draw.nd rfl (Or.inl rfl) (pe_op op_mod (pe_ix ix_list (pv 0) pe_int (fun _ _ => rfl)) (pv 1)))
  (pss_cons (ps_asg (pe_op op_fdivW (pe_ix ix_list (pv 0) pe_int (fun _ _ => rfl)) (pv 1)) (pg_sub (pv 0) pe_int set_list))
  (pss_one (ps_ret (pv 2))))) pss_nil)
  (pss_cons (ps_asg (pe_op op_add (pe_ix ix_list (pv 0) pe_int (fun _ _ => rfl)) pe_int) (pg_sub (pv 0) pe_int set_list))
  (pss_cons (ps_set (i := 2) sc__law_draw.nd rfl (Or.inl rfl) (pe_op op_mod (pe_op op_add (pe_ix ix_list (pv 0) pe_int (fun _ _ => rfl)) (pe_op op_mul (pe_ix ix_list (pv 0) pe_int (fun _ _ => rfl)) pe_int)) pe_int))
  (pss_cons (ps_set (i := 2) sc__law_draw.nd rfl (Or.inl rfl) (pe_op op_mod (pe_op op_add (pe_op op_pow (pv 2) pe_int) (pe_op op_mul (pe_ix ix_list (pv 0) pe_int (fun _ _ => rfl)) pe_int)) pe_int))
  (pss_one (ps_ret (pe_op op_mod (pe_op op_fdivW (pe_op op_mod (pe_op op_pow (pv 2) pe_int) pe_int) pe_int) (pv 1)))))))), ?_⟩
    refine r_begin (show L2.start _ _ = [some _, some _, none] from rfl) ?_
    try dsimp only [cxOf]
    walk_at "rr"
    refine r_d (fun hc => ?_) (fun hc => ?_)
    · walk_at "rr"
      refine r_setL (j := 0) (ys := [.int (a / m), .int b, .int c]) eb rfl rfl ?_
      walk_at "rr"
      exact k _ _ (Int.emod_nonneg _ (by omega)) (Int.emod_lt_of_pos _ hm) But.upd ⟨_, _, _, upd_same, h1, h2, h3, by omega⟩
    · walk_at "rr"
      refine r_setL (j := 2) (ys := [.int a, .int b, .int (c + 1)]) eb rfl rfl ?_
      have e2 : (upd H p (.lst [.int a, .int b, .int (c + 1)])) p = some (.lst [.int a, .int b, .int (c + 1)]) := upd_same
      walk_at "rr"
      have g := fun x : Int => Int.emod_nonneg x (show (2147483647 : Int) ≠ 0 by decide)
      have g2 := fun x : Int => Int.emod_lt_of_pos x (show (0 : Int) < 2147483647 by decide)
      generalize hz : (b + (c + 1) * 7368787) % 2147483647 = z
      have g3 : 0 ≤ z := hz ▸ g _
      have g4 : z < 2147483647 := hz ▸ g2 _
      walk_at "rr"
      generalize hy : (z ^ Int.toNat 5 + (c + 1) * 15485863) % 2147483629 = y
      have g5 : 0 ≤ y := hy ▸ Int.emod_nonneg _ (by decide)
      have g6 : y < 2147483629 := hy ▸ Int.emod_lt_of_pos _ (by decide)
      walk_at "rr"
      exact k _ _ (Int.emod_nonneg _ (by omega)) (Int.emod_lt_of_pos _ hm) But.upd ⟨_, _, _, upd_same, h1, h2, by omega, by omega⟩
/-! ### _law_number -/
abbrev s__law_number : Stmt := top 12
theorem sc__law_number : FnScope ["bag", "way", "great"] ["bag"] (defScope s__law_number) := ⟨rfl, rfl, rfl, by decide +kernel, rfl, by decide +kernel, by decide +kernel⟩
def sp__law_number (_ : PySem.W.Frag) : Sp := fun vs H Q _ => ∃ (p : Addr) (n : Nat), vs = [.ref p] ∧ BagAt H p n ∧ n + 10 < 1000000000 ∧
  ∀ (i : Int) (H' : Hp), -(10 ^ 60) < i → i < 10 ^ 60 → But p H H' → BagAt H' p (n + 4) → Q (.int i) H'
theorem ok__law_number {fa : Addr} {fd : FuncData} (F : Fun K "_law_number" "_law_number" s__law_number fa fd) (TX : Tx mg)
    (C__law_draw : Cal P w K mg base CX0 1 "_law_draw" ["bag", "many"] (sp__law_draw K)) :
    FnOk P w K mg base CX0 2 fa fd ["bag"] (sp__law_number K) := by
  refine F.ok sc__law_number (fun vs H Q E h => ?_) (fun cdv A outer s H vs Q E hr h => ?_)
  · obtain ⟨p, n, rfl, hb, hn, k⟩ := h
    rfl
  · obtain ⟨p, n, rfl, hb, hn, k⟩ := h
    have hu := hu_of hr
    have hu64 := hr.units
    have hu65 := hu65_of hr
    have e20 : (10 : Int) ^ Int.toNat 20 = 100000000000000000000 := by decide +kernel
    have e40 : (10 : Int) ^ Int.toNat 40 = 10000000000000000000000000000000000000000 := by decide +kernel
    have e60 : (10 : Int) ^ 60 = 1000000000000000000000000000000000000000000000000000000000000 := by decide +kernel
    rw [e60] at k
    refine ⟨_, (pss_cons (ps_set (i := 1) sc__law_number.nd rfl (Or.inl rfl) (pe_cal C__law_draw (hr.mono (by decide)) (by rfl) pass0 (pa_cons (pv 0) (pa_cons pe_int pa_nil))))
  (pss_cons (ps_if (pt_cmpR op_eq (pv 1) pe_int (nomark _)) (pss_one (ps_ret (pe_op op_sub (pe_cal C__law_draw (hr.mono (by decide)) (by rfl) pass0 (pa_cons (pv 0) (pa_cons pe_int pa_nil))) pe_int))) pss_nil)
  (pss_cons (ps_if (pt_cmpR op_eq (pv 1) pe_int (nomark _)) (pss_one (ps_ret (pe_op op_sub (pe_cal C__law_draw (hr.mono (by decide)) (by rfl) pass0 (pa_cons (pv 0) (pa_cons pe_int pa_nil))) pe_int))) pss_nil)
  (pss_cons (ps_set (i := 2) sc__law_number.nd rfl (Or.inl rfl) (pe_op op_add (pe_op op_add (pe_op op_mulW (pe_cal C__law_draw (hr.mono (by decide)) (by rfl) pass0 (pa_cons (pv 0) (pa_cons (pe_op op_powW pe_int pe_int) pa_nil))) (pe_op op_powW pe_int pe_int)) (pe_op op_mulW (pe_cal C__law_draw (hr.mono (by decide)) (by rfl) pass0 (pa_cons (pv 0) (pa_cons (pe_op op_powW pe_int pe_int) pa_nil))) (pe_op op_powW pe_int pe_int))) (pe_cal C__law_draw (hr.mono (by decide)) (by rfl) pass0 (pa_cons (pv 0) (pa_cons (pe_op op_powW pe_int pe_int) pa_nil)))))
  (pss_cons (ps_if (pt_cmpR op_eq (pv 1) pe_int (nomark _)) (pss_one (ps_ret (pv 2))) pss_nil)
  (pss_one (ps_ret (pe_op op_sub pe_int (pv 2))))))))), ?_⟩
    refine r_begin (show L2.start _ _ = [some _, none, none] from rfl) ?_
    try dsimp only [cxOf]
    walk_at "rr"
    refine ⟨p, 4, n, rfl, hb, by decide, by decide, by omega, fun way H1 w0 w4 b1 B1 => ?_⟩
    walk_at "rr"
    refine r_d (fun hc => ?_) (fun hc => ?_)
    · walk_at "rr"
      refine ⟨p, 5, _, rfl, B1, by decide, by decide, by omega, fun i H2 i0 i1 b2 B2 => ?_⟩
      walk_at "rr"
      exact k _ _ (by omega) (by omega) (b1.trans b2) (B2.mono (by omega))
    walk_at "rr"
    refine r_d (fun hc2 => ?_) (fun hc2 => ?_)
    · walk_at "rr"
      refine ⟨p, 201, _, rfl, B1, by decide, by decide, by omega, fun i H2 i0 i1 b2 B2 => ?_⟩
      walk_at "rr"
      exact k _ _ (by omega) (by omega) (b1.trans b2) (B2.mono (by omega))
    walk_at "rr"
    rw [e20]
    refine ⟨p, _, _, rfl, B1, by decide, by decide, by omega, fun x H2 x0 x1 b2 B2 => ?_⟩
    walk_at "rr"
    try rw [e40]
    walk_at "rr"
    try rw [e20]
    refine ⟨p, _, _, rfl, B2, by decide, by decide, by omega, fun y H3 y0 y1 b3 B3 => ?_⟩
    walk_at "rr"
    try rw [e20]
    walk_at "rr"
    try rw [e20]
    refine ⟨p, _, _, rfl, B3, by decide, by decide, by omega, fun z H4 z0 z1 b4 B4 => ?_⟩
    have bb := ((b1.trans b2).trans b3).trans b4
    walk_at "rr"
    refine r_d (fun hc3 => ?_) (fun hc3 => ?_)
    · walk_at "rr"
      exact k _ _ (by omega) (by omega) bb (B4.mono (by omega))
    · walk_at "rr"
      exact k _ _ (by omega) (by omega) bb (B4.mono (by omega))
/-! ### _law_row -/
abbrev s__law_row : Stmt := top 13
theorem sc__law_row : FnScope ["bag", "many", "words", "at"] ["bag", "many"] (defScope s__law_row) := ⟨rfl, rfl, rfl, by decide +kernel, rfl, by decide +kernel, by decide +kernel⟩
def sp__law_row (_ : PySem.W.Frag) : Sp := fun vs H Q _ => ∃ (p : Addr) (many : Int) (n : Nat), vs = [.ref p, .int many] ∧ BagAt H p n ∧ 0 ≤ many ∧ many ≤ 1000 ∧ n + 20 < 1000000000 ∧
  ∀ (t : Addr) (r : Row) (H' : Hp), H t = none → RowAt H' (.ref t) r → GoodRow many r → But p H H' → Q (.ref t) H'
def words17 : List Str := ["put", "pick", "drop", "lift", "go", "back", "keep", "call", "jump", "if", "add", "less", "box", "get", "set", "tell", "sweep"]
theorem word_at {i : Int} (h0 : 0 ≤ i) (h1 : i < 17) : ∃ s : Str, atI (words17.map V.str) i = some (.str s) ∧ (9 < i → s ∈ bare) ∧ (5 < i → i ≤ 9 → s ∈ leading) ∧ (0 < i → i ≤ 5 → s ∈ reaching) ∧ (i = 0 → s = "put") := by
  have c : i = 0 ∨ i = 1 ∨ i = 2 ∨ i = 3 ∨ i = 4 ∨ i = 5 ∨ i = 6 ∨ i = 7 ∨ i = 8 ∨ i = 9 ∨ i = 10 ∨ i = 11 ∨ i = 12 ∨ i = 13 ∨ i = 14 ∨ i = 15 ∨ i = 16 := by omega
  rcases c with rfl | rfl | rfl | rfl | rfl | rfl | rfl | rfl | rfl | rfl | rfl | rfl | rfl | rfl | rfl | rfl | rfl <;> exact ⟨_, rfl, by decide +kernel, by decide +kernel, by decide +kernel, by decide +kernel⟩
def w10 : List V := [.str "put", .str "pick", .str "drop", .str "lift", .str "go", .str "back", .str "keep", .str "call", .str "jump", .str "if"]
def w7 : List V := [.str "add", .str "less", .str "box", .str "get", .str "set", .str "tell", .str "sweep"]
theorem ok__law_row {fa : Addr} {fd : FuncData} (F : Fun K "_law_row" "_law_row" s__law_row fa fd) (TX : Tx mg)
    (C__law_draw : Cal P w K mg base CX0 1 "_law_draw" ["bag", "many"] (sp__law_draw K))
    (C__law_number : Cal P w K mg base CX0 2 "_law_number" ["bag"] (sp__law_number K)) :
    FnOk P w K mg base CX0 3 fa fd ["bag", "many"] (sp__law_row K) := by
  refine F.ok sc__law_row (fun vs H Q E h => ?_) (fun cdv A outer s H vs Q E hr h => ?_)
  · obtain ⟨p, many, n, rfl, hw, m0, m1, hn, k⟩ := h
    rfl
  · obtain ⟨p, many, n, rfl, hw, m0, m1, hn, k⟩ := h
    have hu := hu_of hr
    have hu64 := hr.units
    have hu65 := hu65_of hr
    have p60 : (1001 : Int) < 10 ^ 60 := by decide +kernel
    refine ⟨_, (pss_cons (ps_set (i := 2) sc__law_row.nd rfl (Or.inl rfl) (pe_lst (pa_cons pe_str (pa_cons pe_str (pa_cons pe_str (pa_cons pe_str (pa_cons pe_str (pa_cons pe_str (pa_cons pe_str (pa_cons pe_str (pa_cons pe_str (pa_cons pe_str pa_nil))))))))))))
  (pss_cons (ps_set (i := 2) sc__law_row.nd rfl (Or.inl rfl) (pe_op op_cat (pv 2) (pe_lst (pa_cons pe_str (pa_cons pe_str (pa_cons pe_str (pa_cons pe_str (pa_cons pe_str (pa_cons pe_str (pa_cons pe_str pa_nil))))))))))
  (pss_cons (ps_set (i := 3) sc__law_row.nd rfl (Or.inl rfl) (pe_cal C__law_draw (hr.mono (by decide)) (by rfl) pass0 (pa_cons (pv 0) (pa_cons pe_int pa_nil))))
  (pss_cons (ps_if (pt_cmpR op_eq (pv 3) pe_int (nomark _)) (pss_one (ps_ret (pe_tup (pa_cons pe_str (pa_cons (pe_cal C__law_number (hr.mono (by decide)) (by rfl) pass0 (pa_cons (pv 0) pa_nil)) pa_nil))))) pss_nil)
  (pss_cons (ps_if (pt_cmpR op_lt (pv 3) pe_int (nomark _)) (pss_one (ps_ret (pe_tup (pa_cons (pe_ix ix_list (pv 2) (pv 3) (fun _ _ => rfl)) (pa_cons (pe_callB call_abs (by rfl) TX.n_abs (by decide +kernel) (pa_cons (pe_cal C__law_number (hr.mono (by decide)) (by rfl) pass0 (pa_cons (pv 0) pa_nil)) pa_nil)) pa_nil))))) pss_nil)
  (pss_cons (ps_if (PW.pt (pw_and (pt_cmpR op_lt (pv 3) pe_int (nomark _)) (pw_and1 (pt_cmpR op_eq (pe_cal C__law_draw (hr.mono (by decide)) (by rfl) pass0 (pa_cons (pv 0) (pa_cons pe_int pa_nil))) pe_int (nomark _))))) (pss_one (ps_ret (pe_tup (pa_cons (pe_ix ix_list (pv 2) (pv 3) (fun _ _ => rfl)) (pa_cons (pv 1) pa_nil))))) pss_nil)
  (pss_cons (ps_if (pt_cmpR op_lt (pv 3) pe_int (nomark _)) (pss_one (ps_ret (pe_tup (pa_cons (pe_ix ix_list (pv 2) (pv 3) (fun _ _ => rfl)) (pa_cons (pe_cal C__law_draw (hr.mono (by decide)) (by rfl) pass0 (pa_cons (pv 0) (pa_cons (pe_op op_add (pv 1) pe_int) pa_nil))) pa_nil))))) pss_nil)
  (pss_one (ps_ret (pe_tup (pa_cons (pe_ix ix_list (pv 2) (pv 3) (fun _ _ => rfl)) pa_nil))))))))))), ?_⟩
    refine r_begin (show L2.start _ _ = [some _, some _, none, none] from rfl) ?_
    try dsimp only [cxOf]
    walk_at "rr"
    refine ⟨by show 10 ≤ sizeLine; decide, fun l1 hl1 => ?_⟩
    walk_at "rr"
    refine ⟨by show 7 ≤ sizeLine; decide, fun l2 hl2 => ?_⟩
    have hl2 : (upd H l1 (.lst w10)) l2 = none := hl2
    have nl : l1 ≠ l2 := fun e => by rw [← e, upd_same] at hl2; cases hl2
    walk_at "rr"
    refine r_cat (by rw [upd_ne nl]; exact upd_same) upd_same (sz (by simp)) fun c hc => ?_
    have ec : (upd (upd (upd H l1 (.lst w10)) l2 (.lst w7)) c (.lst (words17.map V.str))) c = some (.lst (words17.map V.str)) := upd_same
    have s1 : Same H (upd (upd (upd H l1 (.lst w10)) l2 (.lst w7)) c (.lst (words17.map V.str))) := ((same_new hl1).trans (same_new hl2)).trans (same_new hc)
    have hcH : H c = none := ((same_new hl1).trans (same_new (o := .lst w7) hl2)).free hc
    show gName 2 _ _ (upd (upd (upd H l1 (.lst w10)) l2 (.lst w7)) c (.lst (words17.map V.str))) _
    generalize upd (upd (upd H l1 (.lst w10)) l2 (.lst w7)) c (.lst (words17.map V.str)) = H1 at ec s1 ⊢
    have W1 := hw.same s1
    have ncp : c ≠ p := fun e => hw.there (by rw [← e]; exact hcH)
    walk_at "rr"
    refine ⟨p, 17, _, rfl, W1, by decide, by decide, by omega, fun at_ H2 a0 a1 b2 W2 => ?_⟩
    have ec2 := b2 _ _ ec ncp
    obtain ⟨s, es, h9, h5, h1, h0⟩ := word_at a0 a1
    have b02 : But p H H2 := (But.of s1).trans b2
    have fin : ∀ (t : Addr) (r : Row) (H' : Hp), H' t = none → But p H2 H' → H' p ≠ none → GoodRow many r → Q (.ref t) (upd H' t (.tup (rowV r))) := fun t r H' ht b' hp' g =>
      k t r _ ((b02.trans b').free ht hp') ⟨t, rfl, upd_same⟩ g ((b02.trans b').trans (But.of (same_new ht)))
    walk_at "rr"
    refine r_d (fun c0 => ?_) (fun c0 => ?_)
    · walk_at "rr"
      refine ⟨p, _, rfl, W2, by omega, fun i H3 i0 i1 b3 W3 => ?_⟩
      walk_at "rr"
      refine ⟨by show 2 ≤ sizeLine; decide, fun t ht => ?_⟩
      exact fin t ("put", some i) H3 ht b3 W3.there (.put i0 i1)
    walk_at "rr"
    refine r_d (fun c6 => ?_) (fun c6 => ?_)
    · walk_at "rr"
      refine r_ixl ec2 es ?_
      walk_at "rr"
      refine ⟨p, _, rfl, W2, by omega, fun i H3 i0 i1 b3 W3 => ?_⟩
      walk_at "rr"
      refine ⟨_, rfl, ?_⟩
      walk_at "rr"
      refine ⟨by show 2 ≤ sizeLine; decide, fun t ht => ?_⟩
      exact fin t (s, some _) H3 ht b3 W3.there (.reach (h1 (by omega) (by omega)) (by split <;> omega) (by split <;> omega))
    walk_at "rr"
    by_cases c9 : at_ < 10
    · refine r_itT (decide_eq_true c9) ?_
      walk_at "rr"
      refine ⟨p, 3, _, rfl, W2, by decide, by decide, by omega, fun d H3 d0 d1 b3 W3 => ?_⟩
      have ec3 := b3 _ _ ec2 ncp
      walk_at "rr"
      refine r_d (fun c3 => ?_) (fun c3 => ?_)
      · walk_at "rr"
        refine r_ixl ec3 es ?_
        walk_at "rr"
        refine ⟨by show 2 ≤ sizeLine; decide, fun t ht => ?_⟩
        exact fin t (s, some many) H3 ht b3 W3.there (.lead (h5 (by omega) (by omega)) m0 (by omega) (by omega))
      · walk_at "rr"
        (try refine r_itT (decide_eq_true c9) ?_)
        walk_at "rr"
        refine r_ixl ec3 es ?_
        walk_at "rr"
        refine ⟨p, _, _, rfl, W3, by omega, by omega, by omega, fun e H4 e0 e1 b4 W4 => ?_⟩
        walk_at "rr"
        refine ⟨by show 2 ≤ sizeLine; decide, fun t ht => ?_⟩
        exact fin t (s, some e) H4 ht (b3.trans b4) W4.there (.lead (h5 (by omega) (by omega)) e0 (by omega) (by omega))
    · refine r_itF (decide_eq_false c9) ?_
      walk_at "rr"
      (try refine r_itF (decide_eq_false c9) ?_)
      walk_at "rr"
      refine r_ixl ec2 es ?_
      walk_at "rr"
      refine ⟨by show 1 ≤ sizeLine; decide, fun t ht => ?_⟩
      exact fin t (s, none) H2 ht But.refl W2.there (.bare (h9 (by omega)))
/-! ### _law_odd -/
abbrev s__law_odd : Stmt := top 14
theorem sc__law_odd : FnScope ["bag", "some"] ["bag"] (defScope s__law_odd) := ⟨rfl, rfl, rfl, by decide +kernel, rfl, by decide +kernel, by decide +kernel⟩
def sp__law_odd (_ : PySem.W.Frag) : Sp := fun vs H Q _ => ∃ (p : Addr) (n : Nat), vs = [.ref p] ∧ BagAt H p n ∧ n < 1000000000 ∧
  ∀ (v : V) (x : Thg) (r : Rx) (H' : Hp), But p H H' → ThgAt H' v x → RxAt H' v r → Q v H'
theorem ok__law_odd {fa : Addr} {fd : FuncData} (F : Fun K "_law_odd" "_law_odd" s__law_odd fa fd) (TX : Tx mg)
    (C__law_draw : Cal P w K mg base CX0 1 "_law_draw" ["bag", "many"] (sp__law_draw K)) :
    FnOk P w K mg base CX0 2 fa fd ["bag"] (sp__law_odd K) := by
  refine F.ok sc__law_odd (fun vs H Q E h => ?_) (fun cdv A outer s H vs Q E hr h => ?_)
  · obtain ⟨p, n, rfl, hb, hn, k⟩ := h
    rfl
  · obtain ⟨p, n, rfl, hb, hn, k⟩ := h
    have hu := hu_of hr
    have hu64 := hr.units
    have hu65 := hu65_of hr
    refine ⟨_, (pss_cons (ps_set (i := 1) sc__law_odd.nd rfl (Or.inl rfl) (pe_lst (pa_cons pe_non (pa_cons pe_bl (pa_cons pe_bl (pa_cons pe_str (pa_cons pe_str (pa_cons pe_str (pa_cons (pe_tup pa_nil) (pa_cons (pe_lst pa_nil) (pa_cons pe_dnewK (pa_cons pe_int (pa_cons pe_int (pa_cons (pe_un un_neg pe_int) pa_nil))))))))))))))
  (pss_cons (ps_set (i := 1) sc__law_odd.nd rfl (Or.inl rfl) (pe_op op_cat (pv 1) (pe_lst (pa_cons (pe_tup (pa_cons pe_str pa_nil)) (pa_cons (pe_lst (pa_cons pe_str pa_nil)) (pa_cons (pe_tup (pa_cons pe_str (pa_cons pe_int pa_nil))) (pa_cons (pe_tup (pa_cons pe_str pa_nil)) (pa_cons (pe_tup (pa_cons pe_str (pa_cons pe_int pa_nil))) (pa_cons (pe_tup (pa_cons pe_non pa_nil)) (pa_cons (pe_tup (pa_cons pe_int (pa_cons pe_int pa_nil))) (pa_cons (pe_tup (pa_cons pe_str (pa_cons pe_int pa_nil))) pa_nil)))))))))))
  (pss_one (ps_ret (pe_ix ix_list (pv 1) (pe_cal C__law_draw (hr.mono (by decide)) (by rfl) pass0 (pa_cons (pv 0) (pa_cons pe_int pa_nil))) (fun _ _ => rfl)))))), ?_⟩
    refine r_begin (show L2.start _ _ = [some _, none] from rfl) ?_
    try dsimp only [cxOf]
    walk_at "rr"
    refine ⟨Nat.zero_le _, fun t1 ht1 => ?_⟩
    have s_t1 : Same H (upd H t1 (.tup [])) := same_new ht1
    have e_t1 : (upd H t1 (.tup [])) t1 = some (.tup []) := upd_same
    have s_all := s_t1
    have n_t1 : H t1 = none := ht1
    have s_old := s_all
    clear s_t1 ht1
    generalize upd H t1 (.tup []) = G0 at e_t1  s_all s_old ⊢
    walk_at "rr"
    refine ⟨by show 0 ≤ sizeLine; decide, fun l1 hl1 => ?_⟩
    have s_l1 : Same G0 (upd G0 l1 (.lst [])) := same_new hl1
    have e_l1 : (upd G0 l1 (.lst [])) l1 = some (.lst []) := upd_same
    have e_t1 := s_l1 _ _ e_t1
    have s_all := s_all.trans s_l1
    have n_l1 : H l1 = none := s_old.free hl1
    have s_old := s_all
    clear s_l1 hl1
    generalize upd G0 l1 (.lst []) = G1 at e_l1 e_t1 s_all s_old ⊢
    walk_at "rr"
    refine fun d1 hd1 => ?_
    have s_d1 : Same G1 (upd G1 d1 (.dK [])) := same_new hd1
    have e_d1 : (upd G1 d1 (.dK [])) d1 = some (.dK []) := upd_same
    have e_t1 := s_d1 _ _ e_t1
    have e_l1 := s_d1 _ _ e_l1
    have s_all := s_all.trans s_d1
    have n_d1 : H d1 = none := s_old.free hd1
    have s_old := s_all
    clear s_d1 hd1
    generalize upd G1 d1 (.dK []) = G2 at e_d1 e_t1 e_l1 s_all s_old ⊢
    walk_at "rr"
    refine ⟨by show 12 ≤ sizeLine; decide, fun m1 hm1 => ?_⟩
    have s_m1 : Same G2 (upd G2 m1 (.lst [.non, .bl true, .bl false, .str "1", .str "", .str "add", .ref t1, .ref l1, .ref d1, .int 1, .int 0, .int (-1)])) := same_new hm1
    have e_m1 : (upd G2 m1 (.lst [.non, .bl true, .bl false, .str "1", .str "", .str "add", .ref t1, .ref l1, .ref d1, .int 1, .int 0, .int (-1)])) m1 = some (.lst [.non, .bl true, .bl false, .str "1", .str "", .str "add", .ref t1, .ref l1, .ref d1, .int 1, .int 0, .int (-1)]) := upd_same
    have e_t1 := s_m1 _ _ e_t1
    have e_l1 := s_m1 _ _ e_l1
    have e_d1 := s_m1 _ _ e_d1
    have s_all := s_all.trans s_m1
    have n_m1 : H m1 = none := s_old.free hm1
    have s_old := s_all
    clear s_m1 hm1
    generalize upd G2 m1 (.lst [.non, .bl true, .bl false, .str "1", .str "", .str "add", .ref t1, .ref l1, .ref d1, .int 1, .int 0, .int (-1)]) = G3 at e_m1 e_t1 e_l1 e_d1 s_all s_old ⊢
    walk_at "rr"
    refine ⟨by show 1 ≤ sizeLine; decide, fun t3 ht3 => ?_⟩
    have s_t3 : Same G3 (upd G3 t3 (.tup [.str "add"])) := same_new ht3
    have e_t3 : (upd G3 t3 (.tup [.str "add"])) t3 = some (.tup [.str "add"]) := upd_same
    have e_t1 := s_t3 _ _ e_t1
    have e_l1 := s_t3 _ _ e_l1
    have e_d1 := s_t3 _ _ e_d1
    have e_m1 := s_t3 _ _ e_m1
    have s_all := s_all.trans s_t3
    have n_t3 : H t3 = none := s_old.free ht3
    have s_old := s_all
    clear s_t3 ht3
    generalize upd G3 t3 (.tup [.str "add"]) = G4 at e_t3 e_t1 e_l1 e_d1 e_m1 s_all s_old ⊢
    walk_at "rr"
    refine ⟨by show 1 ≤ sizeLine; decide, fun l4 hl4 => ?_⟩
    have s_l4 : Same G4 (upd G4 l4 (.lst [.str "add"])) := same_new hl4
    have e_l4 : (upd G4 l4 (.lst [.str "add"])) l4 = some (.lst [.str "add"]) := upd_same
    have e_t1 := s_l4 _ _ e_t1
    have e_l1 := s_l4 _ _ e_l1
    have e_d1 := s_l4 _ _ e_d1
    have e_m1 := s_l4 _ _ e_m1
    have e_t3 := s_l4 _ _ e_t3
    have s_all := s_all.trans s_l4
    have n_l4 : H l4 = none := s_old.free hl4
    have s_old := s_all
    clear s_l4 hl4
    generalize upd G4 l4 (.lst [.str "add"]) = G5 at e_l4 e_t1 e_l1 e_d1 e_m1 e_t3 s_all s_old ⊢
    walk_at "rr"
    refine ⟨by show 2 ≤ sizeLine; decide, fun t5 ht5 => ?_⟩
    have s_t5 : Same G5 (upd G5 t5 (.tup [.str "put", .int 1])) := same_new ht5
    have e_t5 : (upd G5 t5 (.tup [.str "put", .int 1])) t5 = some (.tup [.str "put", .int 1]) := upd_same
    have e_t1 := s_t5 _ _ e_t1
    have e_l1 := s_t5 _ _ e_l1
    have e_d1 := s_t5 _ _ e_d1
    have e_m1 := s_t5 _ _ e_m1
    have e_t3 := s_t5 _ _ e_t3
    have e_l4 := s_t5 _ _ e_l4
    have s_all := s_all.trans s_t5
    have n_t5 : H t5 = none := s_old.free ht5
    have s_old := s_all
    clear s_t5 ht5
    generalize upd G5 t5 (.tup [.str "put", .int 1]) = G6 at e_t5 e_t1 e_l1 e_d1 e_m1 e_t3 e_l4 s_all s_old ⊢
    walk_at "rr"
    refine ⟨by show 1 ≤ sizeLine; decide, fun t6 ht6 => ?_⟩
    have s_t6 : Same G6 (upd G6 t6 (.tup [.str "put"])) := same_new ht6
    have e_t6 : (upd G6 t6 (.tup [.str "put"])) t6 = some (.tup [.str "put"]) := upd_same
    have e_t1 := s_t6 _ _ e_t1
    have e_l1 := s_t6 _ _ e_l1
    have e_d1 := s_t6 _ _ e_d1
    have e_m1 := s_t6 _ _ e_m1
    have e_t3 := s_t6 _ _ e_t3
    have e_l4 := s_t6 _ _ e_l4
    have e_t5 := s_t6 _ _ e_t5
    have s_all := s_all.trans s_t6
    have n_t6 : H t6 = none := s_old.free ht6
    have s_old := s_all
    clear s_t6 ht6
    generalize upd G6 t6 (.tup [.str "put"]) = G7 at e_t6 e_t1 e_l1 e_d1 e_m1 e_t3 e_l4 e_t5 s_all s_old ⊢
    walk_at "rr"
    refine ⟨by show 2 ≤ sizeLine; decide, fun t7 ht7 => ?_⟩
    have s_t7 : Same G7 (upd G7 t7 (.tup [.str "add", .int 1])) := same_new ht7
    have e_t7 : (upd G7 t7 (.tup [.str "add", .int 1])) t7 = some (.tup [.str "add", .int 1]) := upd_same
    have e_t1 := s_t7 _ _ e_t1
    have e_l1 := s_t7 _ _ e_l1
    have e_d1 := s_t7 _ _ e_d1
    have e_m1 := s_t7 _ _ e_m1
    have e_t3 := s_t7 _ _ e_t3
    have e_l4 := s_t7 _ _ e_l4
    have e_t5 := s_t7 _ _ e_t5
    have e_t6 := s_t7 _ _ e_t6
    have s_all := s_all.trans s_t7
    have n_t7 : H t7 = none := s_old.free ht7
    have s_old := s_all
    clear s_t7 ht7
    generalize upd G7 t7 (.tup [.str "add", .int 1]) = G8 at e_t7 e_t1 e_l1 e_d1 e_m1 e_t3 e_l4 e_t5 e_t6 s_all s_old ⊢
    walk_at "rr"
    refine ⟨by show 1 ≤ sizeLine; decide, fun t8 ht8 => ?_⟩
    have s_t8 : Same G8 (upd G8 t8 (.tup [.non])) := same_new ht8
    have e_t8 : (upd G8 t8 (.tup [.non])) t8 = some (.tup [.non]) := upd_same
    have e_t1 := s_t8 _ _ e_t1
    have e_l1 := s_t8 _ _ e_l1
    have e_d1 := s_t8 _ _ e_d1
    have e_m1 := s_t8 _ _ e_m1
    have e_t3 := s_t8 _ _ e_t3
    have e_l4 := s_t8 _ _ e_l4
    have e_t5 := s_t8 _ _ e_t5
    have e_t6 := s_t8 _ _ e_t6
    have e_t7 := s_t8 _ _ e_t7
    have s_all := s_all.trans s_t8
    have n_t8 : H t8 = none := s_old.free ht8
    have s_old := s_all
    clear s_t8 ht8
    generalize upd G8 t8 (.tup [.non]) = G9 at e_t8 e_t1 e_l1 e_d1 e_m1 e_t3 e_l4 e_t5 e_t6 e_t7 s_all s_old ⊢
    walk_at "rr"
    refine ⟨by show 2 ≤ sizeLine; decide, fun t9 ht9 => ?_⟩
    have s_t9 : Same G9 (upd G9 t9 (.tup [.int 0, .int 0])) := same_new ht9
    have e_t9 : (upd G9 t9 (.tup [.int 0, .int 0])) t9 = some (.tup [.int 0, .int 0]) := upd_same
    have e_t1 := s_t9 _ _ e_t1
    have e_l1 := s_t9 _ _ e_l1
    have e_d1 := s_t9 _ _ e_d1
    have e_m1 := s_t9 _ _ e_m1
    have e_t3 := s_t9 _ _ e_t3
    have e_l4 := s_t9 _ _ e_l4
    have e_t5 := s_t9 _ _ e_t5
    have e_t6 := s_t9 _ _ e_t6
    have e_t7 := s_t9 _ _ e_t7
    have e_t8 := s_t9 _ _ e_t8
    have s_all := s_all.trans s_t9
    have n_t9 : H t9 = none := s_old.free ht9
    have s_old := s_all
    clear s_t9 ht9
    generalize upd G9 t9 (.tup [.int 0, .int 0]) = G10 at e_t9 e_t1 e_l1 e_d1 e_m1 e_t3 e_l4 e_t5 e_t6 e_t7 e_t8 s_all s_old ⊢
    walk_at "rr"
    refine ⟨by show 2 ≤ sizeLine; decide, fun t0 ht0 => ?_⟩
    have s_t0 : Same G10 (upd G10 t0 (.tup [.str "jump", .int 0])) := same_new ht0
    have e_t0 : (upd G10 t0 (.tup [.str "jump", .int 0])) t0 = some (.tup [.str "jump", .int 0]) := upd_same
    have e_t1 := s_t0 _ _ e_t1
    have e_l1 := s_t0 _ _ e_l1
    have e_d1 := s_t0 _ _ e_d1
    have e_m1 := s_t0 _ _ e_m1
    have e_t3 := s_t0 _ _ e_t3
    have e_l4 := s_t0 _ _ e_l4
    have e_t5 := s_t0 _ _ e_t5
    have e_t6 := s_t0 _ _ e_t6
    have e_t7 := s_t0 _ _ e_t7
    have e_t8 := s_t0 _ _ e_t8
    have e_t9 := s_t0 _ _ e_t9
    have s_all := s_all.trans s_t0
    have n_t0 : H t0 = none := s_old.free ht0
    have s_old := s_all
    clear s_t0 ht0
    generalize upd G10 t0 (.tup [.str "jump", .int 0]) = G11 at e_t0 e_t1 e_l1 e_d1 e_m1 e_t3 e_l4 e_t5 e_t6 e_t7 e_t8 e_t9 s_all s_old ⊢
    walk_at "rr"
    refine ⟨by show 8 ≤ sizeLine; decide, fun m2 hm2 => ?_⟩
    have s_m2 : Same G11 (upd G11 m2 (.lst [.ref t3, .ref l4, .ref t5, .ref t6, .ref t7, .ref t8, .ref t9, .ref t0])) := same_new hm2
    have e_m2 : (upd G11 m2 (.lst [.ref t3, .ref l4, .ref t5, .ref t6, .ref t7, .ref t8, .ref t9, .ref t0])) m2 = some (.lst [.ref t3, .ref l4, .ref t5, .ref t6, .ref t7, .ref t8, .ref t9, .ref t0]) := upd_same
    have e_t1 := s_m2 _ _ e_t1
    have e_l1 := s_m2 _ _ e_l1
    have e_d1 := s_m2 _ _ e_d1
    have e_m1 := s_m2 _ _ e_m1
    have e_t3 := s_m2 _ _ e_t3
    have e_l4 := s_m2 _ _ e_l4
    have e_t5 := s_m2 _ _ e_t5
    have e_t6 := s_m2 _ _ e_t6
    have e_t7 := s_m2 _ _ e_t7
    have e_t8 := s_m2 _ _ e_t8
    have e_t9 := s_m2 _ _ e_t9
    have e_t0 := s_m2 _ _ e_t0
    have s_all := s_all.trans s_m2
    have n_m2 : H m2 = none := s_old.free hm2
    have s_old := s_all
    clear s_m2 hm2
    generalize upd G11 m2 (.lst [.ref t3, .ref l4, .ref t5, .ref t6, .ref t7, .ref t8, .ref t9, .ref t0]) = G12 at e_m2 e_t1 e_l1 e_d1 e_m1 e_t3 e_l4 e_t5 e_t6 e_t7 e_t8 e_t9 e_t0 s_all s_old ⊢
    walk_at "rr"
    refine r_cat e_m1 e_m2 (sz (by simp)) fun c hc => ?_
    have s_c : Same G12 (upd G12 c (.lst ([.non, .bl true, .bl false, .str "1", .str "", .str "add", .ref t1, .ref l1, .ref d1, .int 1, .int 0, .int (-1), .ref t3, .ref l4, .ref t5, .ref t6, .ref t7, .ref t8, .ref t9, .ref t0]))) := same_new hc
    have e_c : (upd G12 c (.lst ([.non, .bl true, .bl false, .str "1", .str "", .str "add", .ref t1, .ref l1, .ref d1, .int 1, .int 0, .int (-1), .ref t3, .ref l4, .ref t5, .ref t6, .ref t7, .ref t8, .ref t9, .ref t0]))) c = some (.lst [.non, .bl true, .bl false, .str "1", .str "", .str "add", .ref t1, .ref l1, .ref d1, .int 1, .int 0, .int (-1), .ref t3, .ref l4, .ref t5, .ref t6, .ref t7, .ref t8, .ref t9, .ref t0]) := upd_same
    have e_t1 := s_c _ _ e_t1
    have e_l1 := s_c _ _ e_l1
    have e_d1 := s_c _ _ e_d1
    have e_m1 := s_c _ _ e_m1
    have e_t3 := s_c _ _ e_t3
    have e_l4 := s_c _ _ e_l4
    have e_t5 := s_c _ _ e_t5
    have e_t6 := s_c _ _ e_t6
    have e_t7 := s_c _ _ e_t7
    have e_t8 := s_c _ _ e_t8
    have e_t9 := s_c _ _ e_t9
    have e_t0 := s_c _ _ e_t0
    have e_m2 := s_c _ _ e_m2
    have n_c : H c = none := s_old.free hc
    have s_all := s_all.trans s_c
    clear s_c hc s_old
    show gName 1 _ _ (upd G12 c (.lst ([.non, .bl true, .bl false, .str "1", .str "", .str "add", .ref t1, .ref l1, .ref d1, .int 1, .int 0, .int (-1), .ref t3, .ref l4, .ref t5, .ref t6, .ref t7, .ref t8, .ref t9, .ref t0]))) _
    generalize upd G12 c (.lst ([.non, .bl true, .bl false, .str "1", .str "", .str "add", .ref t1, .ref l1, .ref d1, .int 1, .int 0, .int (-1), .ref t3, .ref l4, .ref t5, .ref t6, .ref t7, .ref t8, .ref t9, .ref t0])) = HC at e_c e_t1 e_l1 e_d1 e_m1 e_t3 e_l4 e_t5 e_t6 e_t7 e_t8 e_t9 e_t0 e_m2 s_all ⊢
    have B1 := hb.same s_all
    walk_at "rr"
    refine ⟨p, 20, n, rfl, B1, by decide, by decide, by omega, fun i HD i0 i1 b1 B2 => ?_⟩
    have ne : ∀ a, H a = none → a ≠ p := fun a e z => hb.there (by rw [← z]; exact e)
    have b0 : But p H HD := (But.of s_all).trans b1
    have e_t1 := b1 _ _ e_t1 (ne _ n_t1)
    have e_l1 := b1 _ _ e_l1 (ne _ n_l1)
    have e_d1 := b1 _ _ e_d1 (ne _ n_d1)
    have e_m1 := b1 _ _ e_m1 (ne _ n_m1)
    have e_t3 := b1 _ _ e_t3 (ne _ n_t3)
    have e_l4 := b1 _ _ e_l4 (ne _ n_l4)
    have e_t5 := b1 _ _ e_t5 (ne _ n_t5)
    have e_t6 := b1 _ _ e_t6 (ne _ n_t6)
    have e_t7 := b1 _ _ e_t7 (ne _ n_t7)
    have e_t8 := b1 _ _ e_t8 (ne _ n_t8)
    have e_t9 := b1 _ _ e_t9 (ne _ n_t9)
    have e_t0 := b1 _ _ e_t0 (ne _ n_t0)
    have e_m2 := b1 _ _ e_m2 (ne _ n_m2)
    have e_c := b1 _ _ e_c (ne _ n_c)
    walk_at "rr"
    have c20 : i = 0 ∨ i = 1 ∨ i = 2 ∨ i = 3 ∨ i = 4 ∨ i = 5 ∨ i = 6 ∨ i = 7 ∨ i = 8 ∨ i = 9 ∨ i = 10 ∨ i = 11 ∨ i = 12 ∨ i = 13 ∨ i = 14 ∨ i = 15 ∨ i = 16 ∨ i = 17 ∨ i = 18 ∨ i = 19 := by omega
    have fin : ∀ (v : V) (x : Thg) (r : Rx), ThgAt HD v x → RxAt HD v r → Q v HD := fun v x r hx hr => k v x r HD b0 hx hr
    have fino : ∀ (v : V) (x : Thg), ThgAt HD v x → (x.kind == "tuple") = false → Q v HD := fun v x hx hn => fin v x _ hx (.oth hx hn)
    rcases c20 with rfl | rfl | rfl | rfl | rfl | rfl | rfl | rfl | rfl | rfl | rfl | rfl | rfl | rfl | rfl | rfl | rfl | rfl | rfl | rfl
    · exact r_ixl e_c rfl (fino _ (.o "NoneType") OthV.non (by decide))
    · exact r_ixl e_c rfl (fino _ (.o "bool") (OthV.bl _) (by decide))
    · exact r_ixl e_c rfl (fino _ (.o "bool") (OthV.bl _) (by decide))
    · exact r_ixl e_c rfl (fino _ (.s _) rfl (by decide))
    · exact r_ixl e_c rfl (fino _ (.s _) rfl (by decide))
    · exact r_ixl e_c rfl (fino _ (.s _) rfl (by decide))
    · exact r_ixl e_c rfl (fin _ (.o "tuple") _ (OthV.tup e_t1) (.tup e_t1 (.nil)))
    · exact r_ixl e_c rfl (fino _ (.o "list") (OthV.lst e_l1) (by decide))
    · exact r_ixl e_c rfl (fino _ (.o "dict") (OthV.dK e_d1) (by decide))
    · exact r_ixl e_c rfl (fino _ (.i _) rfl (by decide))
    · exact r_ixl e_c rfl (fino _ (.i _) rfl (by decide))
    · exact r_ixl e_c rfl (fino _ (.i _) rfl (by decide))
    · exact r_ixl e_c rfl (fin _ (.o "tuple") _ (OthV.tup e_t3) (.tup e_t3 (.cons (show ThgAt HD _ (.s _) from rfl) (.nil))))
    · exact r_ixl e_c rfl (fino _ (.o "list") (OthV.lst e_l4) (by decide))
    · exact r_ixl e_c rfl (fin _ (.o "tuple") _ (OthV.tup e_t5) (.tup e_t5 (.cons (show ThgAt HD _ (.s _) from rfl) (.cons (show ThgAt HD _ (.i _) from rfl) (.nil)))))
    · exact r_ixl e_c rfl (fin _ (.o "tuple") _ (OthV.tup e_t6) (.tup e_t6 (.cons (show ThgAt HD _ (.s _) from rfl) (.nil))))
    · exact r_ixl e_c rfl (fin _ (.o "tuple") _ (OthV.tup e_t7) (.tup e_t7 (.cons (show ThgAt HD _ (.s _) from rfl) (.cons (show ThgAt HD _ (.i _) from rfl) (.nil)))))
    · exact r_ixl e_c rfl (fin _ (.o "tuple") _ (OthV.tup e_t8) (.tup e_t8 (.cons (show ThgAt HD _ (.o "NoneType") from OthV.non) (.nil))))
    · exact r_ixl e_c rfl (fin _ (.o "tuple") _ (OthV.tup e_t9) (.tup e_t9 (.cons (show ThgAt HD _ (.i _) from rfl) (.cons (show ThgAt HD _ (.i _) from rfl) (.nil)))))
    · exact r_ixl e_c rfl (fin _ (.o "tuple") _ (OthV.tup e_t0) (.tup e_t0 (.cons (show ThgAt HD _ (.s _) from rfl) (.cons (show ThgAt HD _ (.i _) from rfl) (.nil)))))
/-! ### _law_other_word -/
abbrev s__law_other_word : Stmt := top 15
theorem sc__law_other_word : FnScope ["bag", "word", "way", "letters", "k"] ["bag", "word"] (defScope s__law_other_word) := ⟨rfl, rfl, rfl, by decide +kernel, rfl, by decide +kernel, by decide +kernel⟩
def sp__law_other_word (_ : PySem.W.Frag) : Sp := fun vs H Q _ => ∃ (p : Addr) (w : Str) (n : Nat), vs = [.ref p, .str w] ∧ BagAt H p n ∧ n + 20 < 1000000000 ∧ w.length ≤ 1000 ∧
  ∀ (z : Str) (H' : Hp), But p H H' → Q (.str z) H'
theorem ok__law_other_word {fa : Addr} {fd : FuncData} (F : Fun K "_law_other_word" "_law_other_word" s__law_other_word fa fd) (TX : Tx mg)
    (C__law_draw : Cal P w K mg base CX0 1 "_law_draw" ["bag", "many"] (sp__law_draw K)) :
    FnOk P w K mg base CX0 2 fa fd ["bag", "word"] (sp__law_other_word K) := by
  refine F.ok sc__law_other_word (fun vs H Q E h => ?_) (fun cdv A outer s H vs Q E hr h => ?_)
  · obtain ⟨p, w, n, rfl, hb, hn, lw, k⟩ := h
    rfl
  · obtain ⟨p, w, n, rfl, hb, hn, lw, k⟩ := h
    have hu := hu_of hr
    have hu64 := hr.units
    have hu65 := hu65_of hr
    refine ⟨_, (pss_cons (ps_set (i := 2) sc__law_other_word.nd rfl (Or.inl rfl) (pe_cal C__law_draw (hr.mono (by decide)) (by rfl) pass0 (pa_cons (pv 0) (pa_cons pe_int pa_nil))))
  (pss_cons (ps_set (i := 3) sc__law_other_word.nd rfl (Or.inr rfl) pe_str)
  (pss_cons (ps_if (pt_cmpR op_eq (pv 2) pe_int (nomark _)) (pss_one (ps_ret (pe_op op_add_str (pv 1) (pe_ix ix_str (pv 3) (pe_cal C__law_draw (hr.mono (by decide)) (by rfl) pass0 (pa_cons (pv 0) (pa_cons pe_int pa_nil))) (fun _ _ => rfl))))) pss_nil)
  (pss_cons (ps_if (pt_cmpR op_eq (pv 2) pe_int (nomark _)) (pss_one (ps_ret (pe_slice sl_str (pv 1) po_none (po_some (pe_un un_neg pe_int))))) pss_nil)
  (pss_cons (ps_if (pt_cmpR op_eq (pv 2) pe_int (nomark _)) (pss_one (ps_ret (pe_op op_add_str (pe_upper (pe_slice sl_str (pv 1) po_none (po_some pe_int))) (pe_slice sl_str (pv 1) (po_some pe_int) po_none)))) pss_nil)
  (pss_one (ps_ret (pe_join pe_str (pe_lc (own := [("k", 4)]) (g := gName 4) (tt := tYes) rfl sc__law_other_word.nd (pi_range1 (by rfl) TX.range (pa_cons (pe_op op_add pe_int (pe_cal C__law_draw (hr.mono (by decide)) (by rfl) pass0 (pa_cons (pv 0) (pa_cons pe_int pa_nil)))) pa_nil)) (blkOk_by (own := [("k", 4)]) (N := ["bag", "word", "way", "letters", "k"]) (sc := defScope s__law_other_word) (by decide +kernel)) (fun _ _ _ _ _ => (pg_name (i := 4) sc__law_other_word.nd rfl (Or.inl rfl))) (fun _ _ _ _ _ => pts_nil) (fun _ _ _ _ _ => (pe_ix ix_str (pv 3) (pe_cal C__law_draw (hr.mono (by decide)) (by rfl) pass0 (pa_cons (pv 0) (pa_cons pe_int pa_nil))) (fun _ _ => rfl)))))))))))), ?_⟩
    refine r_begin (show L2.start _ _ = [some _, some _, none, none, none] from rfl) ?_
    try dsimp only [cxOf]
    walk_at "rr"
    refine ⟨p, 4, n, rfl, hb, by decide, by decide, by omega, fun way H1 w0 w4 b1 B1 => ?_⟩
    walk_at "rr"
    refine r_d (fun hc => ?_) (fun hc => ?_)
    · walk_at "rr"
      refine ⟨p, 26, _, rfl, B1, by decide, by decide, by omega, fun i H2 i0 i1 b2 B2 => ?_⟩
      walk_at "rr"
      refine r_ixS' (by decide) i0 (by rw [show Str.length _ = 26 from by decide +kernel]; exact i1) fun c => ?_
      walk_at "rr"
      exact ⟨_, _, rfl, rfl, sz (show w.length + 1 ≤ 100000 by omega), k _ _ (b1.trans b2)⟩
    walk_at "rr"
    refine r_d (fun hc2 => ?_) (fun hc2 => ?_)
    · walk_at "rr"
      refine r_slS (sz (show w.length ≤ 100000 by omega)) ?_
      exact k _ _ b1
    walk_at "rr"
    refine r_d (fun hc3 => ?_) (fun hc3 => ?_)
    · walk_at "rr"
      unfold tM0
      walk_at "rr"
      refine r_slS (sz (show w.length ≤ 100000 by omega)) ?_
      have l1 := cutS_length w none (some 1)
      have l2 := cutS_length w (some 1) none
      have l3 := PyProof.Rows.len_upper (cutS w none (some 1))
      refine ⟨⟨_, rfl⟩, _, rfl, rfl, by omega, ?_⟩
      walk_at "rr"
      refine r_slS (sz (show w.length ≤ 100000 by omega)) ?_
      exact ⟨_, _, rfl, rfl, sz (show _ ≤ 100000 by omega), k _ _ b1⟩
    walk_at "rr"
    refine ⟨p, 6, _, rfl, B1, by decide, by decide, by omega, fun m H2 m0 m1 b2 B2 => ?_⟩
    walk_at "rr"
    (try refine r_rngv (by omega) (by omega) ?_)
    generalize hm : Int.toNat _ = mm
    have hm' : mm ≤ 6 := by
      subst hm
      omega
    refine C_range (fun D i H3 => H2 D = none ∧ ∃ zs : List Str, H3 D = some (.lst (zs.map V.str)) ∧ But p H2 H3 ∧ BagAt H3 p (n + 2 + i) ∧ zs.length = i ∧ ∀ s ∈ zs, s.length = 1)
      (fun D hD => ⟨hD, [], upd_same, But.of (same_new hD), (B2.upd hD).mono (by omega), rfl, fun s m => (List.not_mem_nil m).elim⟩) ?_ ?_
    · rintro D i H3 hi ⟨hD, zs, eD, b3, B3, lz, sz1⟩
      have nD : D ≠ p := fun e => B2.there (by rw [← e]; exact hD)
      walk_at "rr"
      refine ⟨p, 26, _, rfl, B3, by decide, by decide, by omega, fun j H4 j0 j1 b4 B4 => ?_⟩
      walk_at "rr"
      refine r_ixS' (by decide) j0 (by rw [show Str.length _ = 26 from by decide +kernel]; exact j1) fun c => ?_
      walk_at "rr"
      have eD4 := b4 _ _ eD nD
      refine ⟨_, eD4, szl (by rw [List.length_map]; omega), hD, zs ++ [(⟨#[c]⟩ : Str)], by rw [List.map_append]; exact upd_same, But.upd' (b3.trans b4) hD, ?_, by rw [List.length_append, lz]; rfl, fun s ms => ?_⟩
      · obtain ⟨a1, a2, a3, ea, h1, h2, h3, h4⟩ := B4
        exact ⟨a1, a2, a3, by rw [upd_ne (Ne.symm nD)]; exact ea, h1, h2, h3, by omega⟩
      · rcases List.mem_append.mp ms with ms | ms
        · exact sz1 s ms
        · rw [List.mem_singleton.mp ms]
          rfl
    · rintro D H3 hD ⟨_, zs, eD, b3, B3, lz, sz1⟩
      walk_at "rr"
      refine ⟨"", D, zs, rfl, rfl, .inl (.inl (.inl eD)), ?_, ?_⟩
      · have e1 : zs.map (·.length) = zs.map fun _ => 1 := List.map_congr_left sz1
        rw [e1, show (Str.ofString "").length = 0 from rfl]
        have e2 : ∀ l : List Str, (l.map fun _ => (1 : Nat)).sum = l.length := fun l => by
          induction l with
          | nil => rfl
          | cons a t ih =>
            rw [List.map_cons, List.sum_cons, List.length_cons, ih]
            omega
        rw [e2]
        omega
      · exact k _ _ ((b1.trans b2).trans b3)
/-! ### _law_other_row -/
abbrev s__law_other_row : Stmt := top 16
theorem sc__law_other_row : FnScope ["bag", "row", "many", "way", "far"] ["bag", "row", "many", "way"] (defScope s__law_other_row) := ⟨rfl, rfl, rfl, by decide +kernel, rfl, by decide +kernel, by decide +kernel⟩
def sp__law_other_row (_ : PySem.W.Frag) : Sp := fun vs H Q _ => ∃ (p t : Addr) (r : Row) (many way : Int) (n : Nat), vs = [.ref p, .ref t, .int many, .int way] ∧ BagAt H p n ∧ H t = some (.tup (rowV r)) ∧ r.1.length ≤ 1000 ∧ 0 ≤ many ∧ many ≤ 1000 ∧ n + 50 < 1000000000 ∧
  ∀ (v : V) (r : Rx) (H' : Hp), But p H H' → RxAt H' v r → Q v H'
theorem row_rest (r : Row) : ∃ (ys : List V) (ls : List Thg), rowV r = .str r.1 :: ys ∧ (∀ H, Paired (ThgAt H) ys ls) ∧ ys.length ≤ 1 ∧ cutV (.str r.1 :: ys) (some 1) none = ys ∧ ¬ (HT.sIx (V.str r.1 :: ys).length 0 (some 1) = 0 ∧ HT.sIx (V.str r.1 :: ys).length (V.str r.1 :: ys).length none = (V.str r.1 :: ys).length) ∧
    (ys.length = 1 → cutV (.str r.1 :: ys) none (some 1) = [.str r.1] ∧ ¬ (HT.sIx (V.str r.1 :: ys).length 0 none = 0 ∧ HT.sIx (V.str r.1 :: ys).length (V.str r.1 :: ys).length (some 1) = (V.str r.1 :: ys).length)) := by
  obtain ⟨s, m⟩ := r
  cases m with
  | none => exact ⟨[], [], rfl, fun _ => .nil, by decide, rfl, by show ¬ (HT.sIx 1 0 (some 1) = 0 ∧ HT.sIx 1 1 none = 1); decide, fun h => by cases h⟩
  | some m => exact ⟨[.int m], [.i m], rfl, fun _ => .cons rfl .nil, Nat.le_refl 1, rfl, by show ¬ (HT.sIx 2 0 (some 1) = 0 ∧ HT.sIx 2 2 none = 2); decide, fun _ => ⟨rfl, by show ¬ (HT.sIx 2 0 none = 0 ∧ HT.sIx 2 2 (some 1) = 2); decide⟩⟩
theorem ok__law_other_row {fa : Addr} {fd : FuncData} (F : Fun K "_law_other_row" "_law_other_row" s__law_other_row fa fd) (TX : Tx mg)
    (C__law_draw : Cal P w K mg base CX0 1 "_law_draw" ["bag", "many"] (sp__law_draw K))
    (C__law_odd : Cal P w K mg base CX0 2 "_law_odd" ["bag"] (sp__law_odd K))
    (C__law_other_word : Cal P w K mg base CX0 2 "_law_other_word" ["bag", "word"] (sp__law_other_word K)) :
    FnOk P w K mg base CX0 3 fa fd ["bag", "row", "many", "way"] (sp__law_other_row K) := by
  refine F.ok sc__law_other_row (fun vs H Q E h => ?_) (fun cdv A outer s H vs Q E hr h => ?_)
  · obtain ⟨p, t, r, many, way, n, rfl, hb, et, ls1, m0, m1, hn, k⟩ := h
    rfl
  · obtain ⟨p, t, r, many, way, n, rfl, hb, et, ls1, m0, m1, hn, k⟩ := h
    have hu := hu_of hr
    have hu64 := hr.units
    have hu65 := hu65_of hr
    obtain ⟨ys, ls, er, hz, l1, c1, c2, c3⟩ := row_rest r
    rw [er] at et
    generalize r.1 = s at et ls1 c1 c2 c3
    have e20 : (10 : Int) ^ Int.toNat 20 = 100000000000000000000 := by decide +kernel
    have nt : t ≠ p := hb.ne et
    have a0 : ∀ zs : List V, atI (V.str s :: zs) 0 = some (.str s) := fun zs => atI_nat (j := 0) rfl
    refine ⟨_, (pss_cons (ps_if (pt_cmpR op_eq (pv 3) pe_int (nomark _)) (pss_cons (ps_set (i := 4) sc__law_other_row.nd rfl (Or.inl rfl) (pe_cal C__law_draw (hr.mono (by decide)) (by rfl) pass0 (pa_cons (pv 0) (pa_cons (pe_op op_pow pe_int pe_int) pa_nil))))
  (pss_one (ps_ret (pe_tup (pa_cons (pe_ix ix_tup (pv 1) pe_int (fun _ _ => rfl)) (pa_cons (pe_ix ix_list (pe_lst (pa_cons (pe_op op_sub (pe_un un_neg pe_int) (pv 4)) (pa_cons (pv 2) (pa_cons (pe_op op_add (pv 2) pe_int) (pa_cons (pe_op op_add (pe_op op_add (pv 2) pe_int) (pv 4)) (pa_cons (pe_un un_neg pe_int) pa_nil)))))) (pe_cal C__law_draw (hr.mono (by decide)) (by rfl) pass0 (pa_cons (pv 0) (pa_cons pe_int pa_nil))) (fun _ _ => rfl)) pa_nil)))))) pss_nil)
  (pss_cons (ps_if (pt_cmpR op_eq (pv 3) pe_int (nomark _)) (pss_one (ps_ret (pe_op op_catT (pe_tup (pa_cons (pe_cal C__law_other_word (hr.mono (by decide)) (by rfl) pass0 (pa_cons (pv 0) (pa_cons (pe_ix ix_tup (pv 1) pe_int (fun _ _ => rfl)) pa_nil))) pa_nil)) (pe_slice sl_tup (pv 1) (po_some pe_int) po_none)))) pss_nil)
  (pss_cons (ps_if (PW.pt (pw_and (pt_cmpR op_eq (pv 3) pe_int (nomark _)) (pw_and1 (pt_cmpR op_eq (pe_callB call_len (by rfl) TX.n_len (by decide +kernel) (pa_cons (pv 1) pa_nil)) pe_int (nomark _))))) (pss_one (ps_ret (pe_slice sl_tup (pv 1) po_none (po_some pe_int)))) pss_nil)
  (pss_cons (ps_if (pt_cmpR op_eq (pv 3) pe_int (nomark _)) (pss_one (ps_ret (pe_op op_catT (pv 1) (pe_tup (pa_cons (pe_cal C__law_draw (hr.mono (by decide)) (by rfl) pass0 (pa_cons (pv 0) (pa_cons (pe_op op_add (pv 2) pe_int) pa_nil))) pa_nil))))) pss_nil)
  (pss_cons (ps_if (pt_cmpR op_eq (pv 3) pe_int (nomark _)) (pss_one (ps_ret (pe_tup (pa_cons (pe_ix ix_tup (pv 1) pe_int (fun _ _ => rfl)) (pa_cons (pe_cal C__law_odd (hr.mono (by decide)) (by rfl) pass0 (pa_cons (pv 0) pa_nil)) pa_nil))))) pss_nil)
  (pss_cons (ps_if (pt_cmpR op_eq (pv 3) pe_int (nomark _)) (pss_one (ps_ret (pe_callTy (kCallR (rListOf K) call_list_of rfl) (by rfl) TX.n_list (by decide +kernel) (pa_cons (pv 1) pa_nil)))) pss_nil)
  (pss_cons (ps_if (pt_cmpR op_eq (pv 3) pe_int (nomark _)) (pss_one (ps_ret (pe_cal C__law_odd (hr.mono (by decide)) (by rfl) pass0 (pa_cons (pv 0) pa_nil)))) pss_nil)
  (pss_cons (ps_if (pt_cmpR op_eq (pv 3) pe_int (nomark _)) (pss_one (ps_ret (pe_op op_catT (pe_tup (pa_cons (pe_cal C__law_odd (hr.mono (by decide)) (by rfl) pass0 (pa_cons (pv 0) pa_nil)) pa_nil)) (pe_slice sl_tup (pv 1) (po_some pe_int) po_none)))) pss_nil)
  (pss_one (ps_ret (pe_op op_catT (pv 1) (pe_tup (pa_cons pe_int pa_nil))))))))))))), ?_⟩
    refine r_begin (show L2.start _ _ = [some _, some _, some _, some _, none] from rfl) ?_
    try dsimp only [cxOf]
    walk_at "rr"
    refine r_d (fun w1 => ?_) (fun w1 => ?_)
    · walk_at "rr"
      rw [e20]
      refine ⟨p, _, n, rfl, hb, by decide, by decide, by omega, fun far H1 f0 f1 b1 B1 => ?_⟩
      have et1 := b1 _ _ et nt
      walk_at "rr"
      refine r_ixt et1 (a0 _) ?_
      walk_at "rr"
      refine ⟨by show 5 ≤ sizeLine; decide, fun l hl => ?_⟩
      have s2 := same_new (o := .lst [.int (-1 - far), .int many, .int (many + 1), .int (many + 1 + far), .int (-1)]) hl
      have el : (upd H1 l (.lst [.int (-1 - far), .int many, .int (many + 1), .int (many + 1 + far), .int (-1)])) l = some (.lst [.int (-1 - far), .int many, .int (many + 1), .int (many + 1 + far), .int (-1)]) := upd_same
      have B2 := B1.same s2
      have nl : l ≠ p := fun e => B1.there (by rw [← e]; exact hl)
      generalize upd H1 l (.lst [.int (-1 - far), .int many, .int (many + 1), .int (many + 1 + far), .int (-1)]) = H2 at s2 el B2 ⊢
      walk_at "rr"
      refine ⟨p, 5, _, rfl, B2, by decide, by decide, by omega, fun j H3 j0 j1 b3 B3 => ?_⟩
      have el3 := b3 _ _ el nl
      obtain ⟨z, ez⟩ : ∃ z : Int, atI [V.int (-1 - far), .int many, .int (many + 1), .int (many + 1 + far), .int (-1)] j = some (.int z) := by
        have c : j = 0 ∨ j = 1 ∨ j = 2 ∨ j = 3 ∨ j = 4 := by omega
        rcases c with rfl | rfl | rfl | rfl | rfl <;> exact ⟨_, rfl⟩
      refine r_ixl el3 ez ?_
      walk_at "rr"
      refine ⟨by show 2 ≤ sizeLine; decide, fun u hu => ?_⟩
      exact k _ (.tup [.s s, .i z]) _ (((b1.trans (But.of s2)).trans b3).trans (But.of (same_new hu))) (.tup upd_same (.cons rfl (.cons rfl .nil)))
    walk_at "rr"
    refine r_d (fun w2 => ?_) (fun w2 => ?_)
    · walk_at "rr"
      refine r_ixt et (a0 _) ?_
      walk_at "rr"
      refine ⟨p, s, n, rfl, hb, by omega, ls1, fun z H1 b1 => ?_⟩
      have et1 := b1 _ _ et nt
      walk_at "rr"
      refine ⟨by show 1 ≤ sizeLine; decide, fun u hu => ?_⟩
      walk_at "rr"
      refine ⟨t, _, rfl, .inl (.inl (same_new hu _ _ et1)), c2, fun q hq => ?_⟩
      rw [c1]
      have s2 := same_new (o := .tup [.str z]) hu
      have s3 := same_new (o := .tup ys) hq
      refine ⟨u, q, [.str z], ys, rfl, rfl, .inl (.inl (s3 _ _ upd_same)), .inl (.inl upd_same), by simp, by show 1 + ys.length ≤ sizeLine; exact sz (by omega), fun e => ?_, fun e c hc => ?_⟩
      · exact k _ (.tup [.s z]) _ (b1.trans (But.of (s2.trans s3))) (.tup (s3 _ _ upd_same) (.cons rfl .nil))
      · exact k _ (.tup (.s z :: ls)) _ (b1.trans (But.of ((s2.trans s3).trans (same_new hc)))) (.tup upd_same (.cons rfl (hz _)))
    walk_at "rr"
    by_cases w3 : way = 3
    · refine r_itT (decide_eq_true w3) ?_
      walk_at "rr"
      refine r_lent et ?_
      walk_at "rr"
      by_cases ly : ys.length = 1
      · refine r_itT (decide_eq_true (by show ((ys.length + 1 : Nat) : Int) = 2; omega)) ?_
        walk_at "rr"
        obtain ⟨c4, c5⟩ := c3 ly
        refine ⟨t, _, rfl, .inl (.inl et), c5, fun q hq => ?_⟩
        rw [c4]
        exact k _ (.tup [.s s]) _ (But.of (same_new hq)) (.tup upd_same (.cons rfl .nil))
      · refine r_itF (decide_eq_false (by show ¬ ((ys.length + 1 : Nat) : Int) = 2; omega)) ?_
        walk_at "rr"
        (try refine r_itT (decide_eq_true w3) ?_)
        walk_at "rr"
        refine ⟨p, _, n, rfl, hb, by omega, by omega, by omega, fun d H1 d0 d1 b1 B1 => ?_⟩
        have et1 := b1 _ _ et nt
        walk_at "rr"
        refine ⟨by show 1 ≤ sizeLine; decide, fun u hu => ?_⟩
        have et2 := same_new (o := .tup [.int d]) hu _ _ et1
        walk_at "rr"
        refine ⟨t, u, _, _, rfl, rfl, .inl (.inl et2), .inl (.inl upd_same), by simp, by show ys.length + 1 + 1 ≤ sizeLine; exact sz (by omega), fun e => (by cases e), fun e c hc => ?_⟩
        exact k _ (.tup (.s s :: (ls ++ [.i d]))) _ (b1.trans (But.of ((same_new hu).trans (same_new hc)))) (.tup upd_same (.cons rfl (paired_app (hz _) (.cons (show ThgAt _ _ (.i _) from rfl) .nil))))
    refine r_itF (decide_eq_false w3) ?_
    walk_at "rr"
    (try refine r_itF (by rfl) ?_)
    (try refine r_itF (decide_eq_false w3) ?_)
    walk_at "rr"
    (try refine r_itF (decide_eq_false w3) ?_)
    walk_at "rr"
    refine r_d (fun w4 => ?_) (fun w4 => ?_)
    · walk_at "rr"
      refine r_ixt et (a0 _) ?_
      walk_at "rr"
      refine ⟨p, n, rfl, hb, by omega, fun v x r H1 b1 hx _ => ?_⟩
      walk_at "rr"
      refine ⟨by show 2 ≤ sizeLine; decide, fun u hu => ?_⟩
      exact k _ (.tup [.s s, x]) _ (b1.trans (But.of (same_new hu))) (.tup upd_same (.cons rfl (.cons (hx.same (same_new hu)) .nil)))
    walk_at "rr"
    refine r_d (fun w5 => ?_) (fun w5 => ?_)
    · walk_at "rr"
      refine ⟨t, _, rfl, .inr (.inl (.inl et)), fun l hl => ?_⟩
      exact k _ (.oth (.o "list")) _ (But.of (same_new hl)) (.oth (OthV.lst upd_same) (by decide))
    walk_at "rr"
    refine r_d (fun w6 => ?_) (fun w6 => ?_)
    · walk_at "rr"
      exact ⟨p, n, rfl, hb, by omega, fun v x r H1 b1 hx hr1 => k v r H1 b1 hr1⟩
    walk_at "rr"
    refine r_d (fun w7 => ?_) (fun w7 => ?_)
    · walk_at "rr"
      refine ⟨p, n, rfl, hb, by omega, fun v x r H1 b1 hx _ => ?_⟩
      have et1 := b1 _ _ et nt
      walk_at "rr"
      refine ⟨by show 1 ≤ sizeLine; decide, fun u hu => ?_⟩
      walk_at "rr"
      refine ⟨t, _, rfl, .inl (.inl (same_new hu _ _ et1)), c2, fun q hq => ?_⟩
      rw [c1]
      have s2 := same_new (o := .tup [v]) hu
      have s3 := same_new (o := .tup ys) hq
      have hx3 := (hx.same s2).same s3
      refine ⟨u, q, [v], ys, rfl, rfl, .inl (.inl (s3 _ _ upd_same)), .inl (.inl upd_same), by simp, by show 1 + ys.length ≤ sizeLine; exact sz (by omega), fun e => ?_, fun e c hc => ?_⟩
      · exact k _ (.tup [x]) _ (b1.trans (But.of (s2.trans s3))) (.tup (s3 _ _ upd_same) (.cons hx3 .nil))
      · exact k _ (.tup (x :: ls)) _ (b1.trans (But.of ((s2.trans s3).trans (same_new hc)))) (.tup upd_same (.cons (hx3.same (same_new hc)) (hz _)))
    walk_at "rr"
    refine ⟨by show 1 ≤ sizeLine; decide, fun u hu => ?_⟩
    have et2 := same_new (o := .tup [.int 0]) hu _ _ et
    walk_at "rr"
    refine ⟨t, u, _, _, rfl, rfl, .inl (.inl et2), .inl (.inl upd_same), by simp, by show ys.length + 1 + 1 ≤ sizeLine; exact sz (by omega), fun e => (by cases e), fun e c hc => ?_⟩
    exact k _ (.tup (.s s :: (ls ++ [.i 0]))) _ (But.of ((same_new hu).trans (same_new hc))) (.tup upd_same (.cons rfl (paired_app (hz _) (.cons (show ThgAt _ _ (.i _) from rfl) .nil))))
/-! ### _law_thing -/
abbrev s__law_thing : Stmt := top 17
theorem sc__law_thing : FnScope ["bag", "rows", "way", "at"] ["bag", "rows"] (defScope s__law_thing) := ⟨rfl, rfl, rfl, by decide +kernel, rfl, by decide +kernel, by decide +kernel⟩
def sp__law_thing (K : PySem.W.Frag) : Sp := fun vs H Q _ => ∃ (p a : Addr) (xs : List V) (rs : List Row) (m : Int) (n : Nat), vs = [.ref p, .ref a] ∧ BagAt H p n ∧ a ≠ p ∧ H a = some (.lst xs) ∧ Paired (RowAt H) xs rs ∧ (∀ r ∈ rs, GoodRow m r) ∧ rs.length ≤ 1000 ∧ n + 100 < 1000000000 ∧
  ∀ (v : V) (t : Tg) (H' : Hp), But p H H' → TgR K H' v t → Q v H'
theorem ok__law_thing {fa : Addr} {fd : FuncData} (F : Fun K "_law_thing" "_law_thing" s__law_thing fa fd) (TX : Tx mg)
    (C__law_draw : Cal P w K mg base CX0 1 "_law_draw" ["bag", "many"] (sp__law_draw K))
    (C__law_other_row : Cal P w K mg base CX0 3 "_law_other_row" ["bag", "row", "many", "way"] (sp__law_other_row K)) :
    FnOk P w K mg base CX0 4 fa fd ["bag", "rows"] (sp__law_thing K) := by
  refine F.ok sc__law_thing (fun vs H Q E h => ?_) (fun cdv A outer s H vs Q E hr h => ?_)
  · obtain ⟨p, a, xs, rs, m, n, rfl, hb, nap, ea, wr, g, lr, hn, k⟩ := h
    rfl
  · obtain ⟨p, a, xs, rs, m, n, rfl, hb, nap, ea, wr, g, lr, hn, k⟩ := h
    have hu := hu_of hr
    have hu64 := hr.units
    have hu65 := hu65_of hr
    have lx := paired_len wr
    have rb : ∀ {H1 H2 : Hp} {n1 : Nat}, BagAt H1 p n1 → But p H1 H2 → Paired (RowAt H1) xs rs → Paired (RowAt H2) xs rs := fun hb b w => Paired.mapP w fun _ _ ⟨t, e, h⟩ => ⟨t, e, b _ _ h (hb.ne h)⟩
    refine ⟨_, (pss_cons (ps_set (i := 2) sc__law_thing.nd rfl (Or.inl rfl) (pe_cal C__law_draw (hr.mono (by decide)) (by rfl) pass0 (pa_cons (pv 0) (pa_cons pe_int pa_nil))))
  (pss_cons (ps_if (pt_cmpR op_eq (pv 2) pe_int (nomark _)) (pss_one (ps_ret (pv 1))) pss_nil)
  (pss_cons (ps_if (PW.pt (pw_or (pt_cmpR op_eq (pv 2) pe_int (nomark _)) (pw_or1 (pt_cmpR (op_eqD hu64) (pv 1) (pe_lst pa_nil) (nomark _))))) (pss_one (ps_ret (pe_ix ix_list (pe_lst (pa_cons pe_non (pa_cons pe_bl (pa_cons pe_int (pa_cons pe_str (pa_cons pe_str (pa_cons (pe_callTy call_tuple_of (by rfl) TX.n_tuple (by decide +kernel) (pa_cons (pv 1) pa_nil)) (pa_cons (pe_lst (pa_cons (pv 1) pa_nil)) (pa_cons (pe_disp (pps_cons pe_int (pe_tup (pa_cons pe_str pa_nil)) pps_nil) (by rfl) (by rfl) (fun z => by cases z) (by decide)) (pa_cons (pe_tup (pa_cons pe_str pa_nil)) (pa_cons (pe_lst (pa_cons (pe_tup pa_nil) pa_nil)) pa_nil))))))))))) (pe_cal C__law_draw (hr.mono (by decide)) (by rfl) pass0 (pa_cons (pv 0) (pa_cons pe_int pa_nil))) (fun _ _ => rfl)))) pss_nil)
  (pss_cons (ps_if (pt_cmpR op_gt (pv 2) pe_int (nomark _)) (pss_one (ps_ret (pe_slice sl_list (pv 1) po_none (po_some (pe_un un_neg pe_int))))) pss_nil)
  (pss_cons (ps_set (i := 3) sc__law_thing.nd rfl (Or.inl rfl) (pe_cal C__law_draw (hr.mono (by decide)) (by rfl) pass0 (pa_cons (pv 0) (pa_cons (pe_callB call_len (by rfl) TX.n_len (by decide +kernel) (pa_cons (pv 1) pa_nil)) pa_nil))))
  (pss_one (ps_ret (pe_op op_cat (pe_op op_cat (pe_slice sl_list (pv 1) po_none (po_some (pv 3))) (pe_lst (pa_cons (pe_cal C__law_other_row (hr.mono (by decide)) (by rfl) pass0 (pa_cons (pv 0) (pa_cons (pe_ix ix_list (pv 1) (pv 3) (fun _ _ => rfl)) (pa_cons (pe_callB call_len (by rfl) TX.n_len (by decide +kernel) (pa_cons (pv 1) pa_nil)) (pa_cons (pv 2) pa_nil))))) pa_nil))) (pe_slice sl_list (pv 1) (po_some (pe_op op_add (pv 3) pe_int)) po_none))))))))), ?_⟩
    refine r_begin (show L2.start _ _ = [some _, some _, none, none] from rfl) ?_
    try dsimp only [cxOf]
    walk_at "rr"
    refine ⟨p, 12, n, rfl, hb, by decide, by decide, by omega, fun way H1 w0 w4 b1 B1 => ?_⟩
    have ea1 := b1 _ _ ea nap
    have wr1 := rb hb b1 wr
    walk_at "rr"
    refine r_d (fun w1 => ?_) (fun w1 => ?_)
    · walk_at "rr"
      exact k _ _ _ b1 (.rows ea1 (rows_rx wr1))
    walk_at "rr"
    by_cases w9 : way = 9
    · refine r_itT (decide_eq_true w9) ?_
      obtain ⟨H5, rfl⟩ : ∃ z, z = H1 := ⟨_, rfl⟩
      have b5 := b1
      have B5 := B1
      have ea5 := ea1
      have wr5 := wr1
      walk_at "rr"
      refine ⟨a, xs, rfl, .inl ⟨.inl (.inl ea5), fun t0 h0 => ?_⟩⟩
      have z0 := same_new (o := .tup xs) h0
      have e0 : (upd H5 t0 (.tup xs)) t0 = some (.tup xs) := upd_same
      have n0 : H5 t0 = none := h0
      generalize upd H5 t0 (.tup xs) = H6 at z0 e0 ⊢
      have Z := z0
      walk_at "rr"
      refine ⟨by show 1 ≤ sizeLine; decide, fun l1 h1 => ?_⟩
      have z1 := same_new (o := .lst [.ref a]) h1
      have e1 : (upd H6 l1 (.lst [.ref a])) l1 = some (.lst [.ref a]) := upd_same
      have e0 := z1 _ _ e0
      have n1 : H5 l1 = none := Z.free h1
      have Z := Z.trans z1
      generalize upd H6 l1 (.lst [.ref a]) = H7 at z1 e1 e0 Z ⊢
      walk_at "rr"
      refine r_disp fun d2 h2 => ?_
      walk_at "rr"
      refine ⟨by show 1 ≤ sizeLine; decide, fun t3 h3 => ?_⟩
      have h3 : (upd H7 d2 (.dK [])) t3 = none := h3
      have n23 : t3 ≠ d2 := fun e => by rw [e, upd_same] at h3; cases h3
      walk_at "rr"
      refine ⟨same_new h3 _ _ upd_same, [(.inl 0, .ref t3)], rfl, Nat.le_of_ble_eq_true rfl, ?_⟩
      have z2 : Same H7 (upd (upd (upd H7 d2 (.dK [])) t3 (.tup [.str "add"])) d2 (.dK (mergeK [] [(.inl 0, .ref t3)]))) := Same.own ((same_new h2).trans (same_new h3)) h2
      have e2 : (upd (upd (upd H7 d2 (.dK [])) t3 (.tup [.str "add"])) d2 (.dK (mergeK [] [(.inl 0, .ref t3)]))) d2 = some (.dK [(.inl 0, .ref t3)]) := upd_same
      have e1 := z2 _ _ e1
      have e0 := z2 _ _ e0
      have n2 : H5 d2 = none := Z.free h2
      have Z := Z.trans z2
      generalize upd (upd (upd H7 d2 (.dK [])) t3 (.tup [.str "add"])) d2 (.dK (mergeK [] [(.inl 0, .ref t3)])) = H8 at z2 e2 e1 e0 Z ⊢
      walk_at "rr"
      refine ⟨by show 1 ≤ sizeLine; decide, fun t4 h4 => ?_⟩
      have z4 := same_new (o := .tup [.str "add"]) h4
      have e4 : (upd H8 t4 (.tup [.str "add"])) t4 = some (.tup [.str "add"]) := upd_same
      have e2 := z4 _ _ e2
      have e1 := z4 _ _ e1
      have e0 := z4 _ _ e0
      have n4 : H5 t4 = none := Z.free h4
      have Z := Z.trans z4
      generalize upd H8 t4 (.tup [.str "add"]) = H9 at z4 e4 e2 e1 e0 Z ⊢
      walk_at "rr"
      refine ⟨by show 0 ≤ sizeLine; decide, fun t5 h5 => ?_⟩
      have z5 := same_new (o := .tup []) h5
      have e5 : (upd H9 t5 (.tup [])) t5 = some (.tup []) := upd_same
      have e4 := z5 _ _ e4
      have e2 := z5 _ _ e2
      have e1 := z5 _ _ e1
      have e0 := z5 _ _ e0
      have n5 : H5 t5 = none := Z.free h5
      have Z := Z.trans z5
      generalize upd H9 t5 (.tup []) = HA at z5 e5 e4 e2 e1 e0 Z ⊢
      walk_at "rr"
      refine ⟨by show 1 ≤ sizeLine; decide, fun l6 h6 => ?_⟩
      have z6 := same_new (o := .lst [.ref t5]) h6
      have e6 : (upd HA l6 (.lst [.ref t5])) l6 = some (.lst [.ref t5]) := upd_same
      have e5 := z6 _ _ e5
      have e4 := z6 _ _ e4
      have e2 := z6 _ _ e2
      have e1 := z6 _ _ e1
      have e0 := z6 _ _ e0
      have n6 : H5 l6 = none := Z.free h6
      have Z := Z.trans z6
      generalize upd HA l6 (.lst [.ref t5]) = HB at z6 e6 e5 e4 e2 e1 e0 Z ⊢
      walk_at "rr"
      refine ⟨by show 10 ≤ sizeLine; decide, fun m7 h7 => ?_⟩
      have z7 := same_new (o := .lst [.non, .bl true, .int 0, .str "", .str "add", .ref t0, .ref l1, .ref d2, .ref t4, .ref l6]) h7
      have e7 : (upd HB m7 (.lst [.non, .bl true, .int 0, .str "", .str "add", .ref t0, .ref l1, .ref d2, .ref t4, .ref l6])) m7 = some (.lst [.non, .bl true, .int 0, .str "", .str "add", .ref t0, .ref l1, .ref d2, .ref t4, .ref l6]) := upd_same
      have e6 := z7 _ _ e6
      have e5 := z7 _ _ e5
      have e4 := z7 _ _ e4
      have e2 := z7 _ _ e2
      have e1 := z7 _ _ e1
      have e0 := z7 _ _ e0
      have n7 : H5 m7 = none := Z.free h7
      have Z := Z.trans z7
      generalize upd HB m7 (.lst [.non, .bl true, .int 0, .str "", .str "add", .ref t0, .ref l1, .ref d2, .ref t4, .ref l6]) = HC at z7 e7 e6 e5 e4 e2 e1 e0 Z ⊢
      have BC := B5.same Z
      walk_at "rr"
      refine ⟨p, 10, _, rfl, BC, by decide, by decide, by omega, fun i HD i0 i1 bD BD => ?_⟩
      have ne : ∀ a, H5 a = none → a ≠ p := fun a e z => B5.there (by rw [← z]; exact e)
      have bb := b5.trans ((But.of Z).trans bD)
      have eaD := bb _ _ ea nap
      have wrD := rb hb bb wr
      have e0 := bD _ _ e0 (ne _ n0)
      have e1 := bD _ _ e1 (ne _ n1)
      have e2 := bD _ _ e2 (ne _ n2)
      have e4 := bD _ _ e4 (ne _ n4)
      have e5 := bD _ _ e5 (ne _ n5)
      have e6 := bD _ _ e6 (ne _ n6)
      have e7 := bD _ _ e7 (ne _ n7)
      walk_at "rr"
      have fin : ∀ (v : V) (x : Thg), ThgAt HD v x → (x.kind == "list") = false → NeOk K HD v → Q v HD := fun v x hx hn hs => k v (.oth x) HD bb (.oth hx hn hs)
      have c10 : i = 0 ∨ i = 1 ∨ i = 2 ∨ i = 3 ∨ i = 4 ∨ i = 5 ∨ i = 6 ∨ i = 7 ∨ i = 8 ∨ i = 9 := by omega
      rcases c10 with rfl | rfl | rfl | rfl | rfl | rfl | rfl | rfl | rfl | rfl
      · exact r_ixl e7 rfl (fin _ (.o "NoneType") OthV.non (by decide) (.inr ⟨.none, .non, by decide⟩))
      · exact r_ixl e7 rfl (fin _ (.o "bool") (OthV.bl _) (by decide) (.inr ⟨.bool true, .bl _, by decide⟩))
      · exact r_ixl e7 rfl (fin _ (.i 0) rfl (by decide) (.inr ⟨.int 0, .int _, (Ok.int (n := 0) 0).shaped (by decide)⟩))
      · exact r_ixl e7 rfl (fin _ (.s _) rfl (by decide) (.inr ⟨.str _, .str _, (Ok.str (n := 0) (by decide +kernel)).shaped (by decide)⟩))
      · exact r_ixl e7 rfl (fin _ (.s _) rfl (by decide) (.inr ⟨.str _, .str _, (Ok.str (n := 0) (by decide +kernel)).shaped (by decide)⟩))
      · exact r_ixl e7 rfl (fin _ (.o "tuple") (OthV.tup e0) (by decide) (.inr ⟨.tuple (rs.map rowd), .tup (.inl (.inl e0)) (rows_dp wrD), (Ok.tuple (n := 2) (.map fun r m => row_ok (g r m))).shaped (by decide)⟩))
      · exact r_ixl e7 rfl (k _ _ HD bb (.rows e1 (.cons (.oth (x := .o "list") (OthV.lst eaD) (by decide)) .nil)))
      · exact r_ixl e7 rfl (fin _ (.o "dict") (OthV.dK e2) (by decide) (.inl (.inr ⟨_, _, rfl, rfl, e2, by simp, fun q m => by rw [List.mem_singleton.mp m]; rfl⟩)))
      · exact r_ixl e7 rfl (fin _ (.o "tuple") (OthV.tup e4) (by decide) (.inr ⟨.tuple [.str "add"], .tup (.inl (.inl e4)) (.cons (.str _) .nil), (Ok.tuple (n := 0) (.cons (Ok.str (by decide +kernel)) .nil)).shaped (by decide)⟩))
      · exact r_ixl e7 rfl (k _ _ HD bb (.rows e6 (.cons (.tup e5 .nil) .nil)))
    refine r_itF (decide_eq_false w9) ?_
    walk_at "rr"
    refine ⟨by show 0 ≤ sizeLine; decide, fun z hz => ?_⟩
    have s2 := same_new (o := .lst []) hz
    have ez : (upd H1 z (.lst [])) z = some (.lst []) := upd_same
    have ea2 := s2 _ _ ea1
    have wr2 : Paired (RowAt _) xs rs := Paired.mapP wr1 fun _ _ => RowAt.same s2
    have B2 := B1.same s2
    have b2 := b1.trans (But.of s2)
    generalize upd H1 z (.lst []) = H2 at s2 ez ea2 wr2 B2 b2 ⊢
    refine ⟨.list (rs.map rowd), .list [], .lst (.inl (.inl ea2)) (rows_dp wr2), .lst (.inl (.inl ez)) .nil, (Ok.list (n := 2) (.map fun r m => row_ok (g r m))).shaped (by decide), (Ok.list (n := 0) .nil).shaped (by decide), ?_⟩
    by_cases hr0 : rs = []
    · rw [show PyData.eqv (.list (rs.map rowd)) (.list []) = true by rw [hr0]; rfl]
      walk_at "rr"
      (try refine r_itT rfl ?_)
      obtain ⟨H5, rfl⟩ : ∃ z, z = H2 := ⟨_, rfl⟩
      have b5 := b2
      have B5 := B2
      have ea5 := ea2
      have wr5 := wr2
      walk_at "rr"
      refine ⟨a, xs, rfl, .inl ⟨.inl (.inl ea5), fun t0 h0 => ?_⟩⟩
      have z0 := same_new (o := .tup xs) h0
      have e0 : (upd H5 t0 (.tup xs)) t0 = some (.tup xs) := upd_same
      have n0 : H5 t0 = none := h0
      generalize upd H5 t0 (.tup xs) = H6 at z0 e0 ⊢
      have Z := z0
      walk_at "rr"
      refine ⟨by show 1 ≤ sizeLine; decide, fun l1 h1 => ?_⟩
      have z1 := same_new (o := .lst [.ref a]) h1
      have e1 : (upd H6 l1 (.lst [.ref a])) l1 = some (.lst [.ref a]) := upd_same
      have e0 := z1 _ _ e0
      have n1 : H5 l1 = none := Z.free h1
      have Z := Z.trans z1
      generalize upd H6 l1 (.lst [.ref a]) = H7 at z1 e1 e0 Z ⊢
      walk_at "rr"
      refine r_disp fun d2 h2 => ?_
      walk_at "rr"
      refine ⟨by show 1 ≤ sizeLine; decide, fun t3 h3 => ?_⟩
      have h3 : (upd H7 d2 (.dK [])) t3 = none := h3
      have n23 : t3 ≠ d2 := fun e => by rw [e, upd_same] at h3; cases h3
      walk_at "rr"
      refine ⟨same_new h3 _ _ upd_same, [(.inl 0, .ref t3)], rfl, Nat.le_of_ble_eq_true rfl, ?_⟩
      have z2 : Same H7 (upd (upd (upd H7 d2 (.dK [])) t3 (.tup [.str "add"])) d2 (.dK (mergeK [] [(.inl 0, .ref t3)]))) := Same.own ((same_new h2).trans (same_new h3)) h2
      have e2 : (upd (upd (upd H7 d2 (.dK [])) t3 (.tup [.str "add"])) d2 (.dK (mergeK [] [(.inl 0, .ref t3)]))) d2 = some (.dK [(.inl 0, .ref t3)]) := upd_same
      have e1 := z2 _ _ e1
      have e0 := z2 _ _ e0
      have n2 : H5 d2 = none := Z.free h2
      have Z := Z.trans z2
      generalize upd (upd (upd H7 d2 (.dK [])) t3 (.tup [.str "add"])) d2 (.dK (mergeK [] [(.inl 0, .ref t3)])) = H8 at z2 e2 e1 e0 Z ⊢
      walk_at "rr"
      refine ⟨by show 1 ≤ sizeLine; decide, fun t4 h4 => ?_⟩
      have z4 := same_new (o := .tup [.str "add"]) h4
      have e4 : (upd H8 t4 (.tup [.str "add"])) t4 = some (.tup [.str "add"]) := upd_same
      have e2 := z4 _ _ e2
      have e1 := z4 _ _ e1
      have e0 := z4 _ _ e0
      have n4 : H5 t4 = none := Z.free h4
      have Z := Z.trans z4
      generalize upd H8 t4 (.tup [.str "add"]) = H9 at z4 e4 e2 e1 e0 Z ⊢
      walk_at "rr"
      refine ⟨by show 0 ≤ sizeLine; decide, fun t5 h5 => ?_⟩
      have z5 := same_new (o := .tup []) h5
      have e5 : (upd H9 t5 (.tup [])) t5 = some (.tup []) := upd_same
      have e4 := z5 _ _ e4
      have e2 := z5 _ _ e2
      have e1 := z5 _ _ e1
      have e0 := z5 _ _ e0
      have n5 : H5 t5 = none := Z.free h5
      have Z := Z.trans z5
      generalize upd H9 t5 (.tup []) = HA at z5 e5 e4 e2 e1 e0 Z ⊢
      walk_at "rr"
      refine ⟨by show 1 ≤ sizeLine; decide, fun l6 h6 => ?_⟩
      have z6 := same_new (o := .lst [.ref t5]) h6
      have e6 : (upd HA l6 (.lst [.ref t5])) l6 = some (.lst [.ref t5]) := upd_same
      have e5 := z6 _ _ e5
      have e4 := z6 _ _ e4
      have e2 := z6 _ _ e2
      have e1 := z6 _ _ e1
      have e0 := z6 _ _ e0
      have n6 : H5 l6 = none := Z.free h6
      have Z := Z.trans z6
      generalize upd HA l6 (.lst [.ref t5]) = HB at z6 e6 e5 e4 e2 e1 e0 Z ⊢
      walk_at "rr"
      refine ⟨by show 10 ≤ sizeLine; decide, fun m7 h7 => ?_⟩
      have z7 := same_new (o := .lst [.non, .bl true, .int 0, .str "", .str "add", .ref t0, .ref l1, .ref d2, .ref t4, .ref l6]) h7
      have e7 : (upd HB m7 (.lst [.non, .bl true, .int 0, .str "", .str "add", .ref t0, .ref l1, .ref d2, .ref t4, .ref l6])) m7 = some (.lst [.non, .bl true, .int 0, .str "", .str "add", .ref t0, .ref l1, .ref d2, .ref t4, .ref l6]) := upd_same
      have e6 := z7 _ _ e6
      have e5 := z7 _ _ e5
      have e4 := z7 _ _ e4
      have e2 := z7 _ _ e2
      have e1 := z7 _ _ e1
      have e0 := z7 _ _ e0
      have n7 : H5 m7 = none := Z.free h7
      have Z := Z.trans z7
      generalize upd HB m7 (.lst [.non, .bl true, .int 0, .str "", .str "add", .ref t0, .ref l1, .ref d2, .ref t4, .ref l6]) = HC at z7 e7 e6 e5 e4 e2 e1 e0 Z ⊢
      have BC := B5.same Z
      walk_at "rr"
      refine ⟨p, 10, _, rfl, BC, by decide, by decide, by omega, fun i HD i0 i1 bD BD => ?_⟩
      have ne : ∀ a, H5 a = none → a ≠ p := fun a e z => B5.there (by rw [← z]; exact e)
      have bb := b5.trans ((But.of Z).trans bD)
      have eaD := bb _ _ ea nap
      have wrD := rb hb bb wr
      have e0 := bD _ _ e0 (ne _ n0)
      have e1 := bD _ _ e1 (ne _ n1)
      have e2 := bD _ _ e2 (ne _ n2)
      have e4 := bD _ _ e4 (ne _ n4)
      have e5 := bD _ _ e5 (ne _ n5)
      have e6 := bD _ _ e6 (ne _ n6)
      have e7 := bD _ _ e7 (ne _ n7)
      walk_at "rr"
      have fin : ∀ (v : V) (x : Thg), ThgAt HD v x → (x.kind == "list") = false → NeOk K HD v → Q v HD := fun v x hx hn hs => k v (.oth x) HD bb (.oth hx hn hs)
      have c10 : i = 0 ∨ i = 1 ∨ i = 2 ∨ i = 3 ∨ i = 4 ∨ i = 5 ∨ i = 6 ∨ i = 7 ∨ i = 8 ∨ i = 9 := by omega
      rcases c10 with rfl | rfl | rfl | rfl | rfl | rfl | rfl | rfl | rfl | rfl
      · exact r_ixl e7 rfl (fin _ (.o "NoneType") OthV.non (by decide) (.inr ⟨.none, .non, by decide⟩))
      · exact r_ixl e7 rfl (fin _ (.o "bool") (OthV.bl _) (by decide) (.inr ⟨.bool true, .bl _, by decide⟩))
      · exact r_ixl e7 rfl (fin _ (.i 0) rfl (by decide) (.inr ⟨.int 0, .int _, (Ok.int (n := 0) 0).shaped (by decide)⟩))
      · exact r_ixl e7 rfl (fin _ (.s _) rfl (by decide) (.inr ⟨.str _, .str _, (Ok.str (n := 0) (by decide +kernel)).shaped (by decide)⟩))
      · exact r_ixl e7 rfl (fin _ (.s _) rfl (by decide) (.inr ⟨.str _, .str _, (Ok.str (n := 0) (by decide +kernel)).shaped (by decide)⟩))
      · exact r_ixl e7 rfl (fin _ (.o "tuple") (OthV.tup e0) (by decide) (.inr ⟨.tuple (rs.map rowd), .tup (.inl (.inl e0)) (rows_dp wrD), (Ok.tuple (n := 2) (.map fun r m => row_ok (g r m))).shaped (by decide)⟩))
      · exact r_ixl e7 rfl (k _ _ HD bb (.rows e1 (.cons (.oth (x := .o "list") (OthV.lst eaD) (by decide)) .nil)))
      · exact r_ixl e7 rfl (fin _ (.o "dict") (OthV.dK e2) (by decide) (.inl (.inr ⟨_, _, rfl, rfl, e2, by simp, fun q m => by rw [List.mem_singleton.mp m]; rfl⟩)))
      · exact r_ixl e7 rfl (fin _ (.o "tuple") (OthV.tup e4) (by decide) (.inr ⟨.tuple [.str "add"], .tup (.inl (.inl e4)) (.cons (.str _) .nil), (Ok.tuple (n := 0) (.cons (Ok.str (by decide +kernel)) .nil)).shaped (by decide)⟩))
      · exact r_ixl e7 rfl (k _ _ HD bb (.rows e6 (.cons (.tup e5 .nil) .nil)))
    have l1 : 0 < rs.length := List.length_pos_iff.mpr hr0
    rw [show PyData.eqv (.list (rs.map rowd)) (.list []) = false by
      match rs, hr0 with
      | r :: l, _ => rfl]
    walk_at "rr"
    (try refine r_itF rfl ?_)
    walk_at "rr"
    refine r_d (fun w10 => ?_) (fun w10 => ?_)
    · walk_at "rr"
      refine ⟨a, xs, rfl, .inl (.inl ea2), fun q hq => ?_⟩
      have s3 := same_new (o := .lst (cutV xs none (some (-1)))) hq
      obtain ⟨ts, ht⟩ := pair_cut (rows_rx (Paired.mapP wr2 fun _ _ => RowAt.same s3)) none (some (-1))
      exact k _ (.rows ts) _ (b2.trans (But.of s3)) (.rows upd_same ht)
    walk_at "rr"
    refine r_lenl ea2 ?_
    rw [lx]
    walk_at "rr"
    refine ⟨p, _, _, rfl, B2, by omega, by omega, by omega, fun at_ H3 a0 a1 b3 B3 => ?_⟩
    have ea3 := b3 _ _ ea2 nap
    have wr3 := rb B2 b3 wr2
    walk_at "rr"
    refine ⟨a, xs, rfl, .inl (.inl ea3), fun q1 hq1 => ?_⟩
    have s4 := same_new (o := .lst (cutV xs none (some at_))) hq1
    have e4 : (upd H3 q1 (.lst (cutV xs none (some at_)))) q1 = some (.lst (cutV xs none (some at_))) := upd_same
    have ea4 := s4 _ _ ea3
    have wr4 : Paired (RowAt _) xs rs := Paired.mapP wr3 fun _ _ => RowAt.same s4
    have B4 := B3.same s4
    have nq1 : q1 ≠ p := fun e => B3.there (by rw [← e]; exact hq1)
    have b4 := (b2.trans b3).trans (But.of s4)
    generalize upd H3 q1 (.lst (cutV xs none (some at_))) = H4 at s4 e4 ea4 wr4 B4 b4 ⊢
    walk_at "rr"
    obtain ⟨x, ex⟩ := atI_there (xs := xs) a0 (by rw [lx]; exact a1)
    refine r_ixl ea4 ex ?_
    walk_at "rr"
    refine r_lenl ea4 ?_
    rw [lx]
    walk_at "rr"
    obtain ⟨j, hj⟩ : ∃ j : Nat, at_ = (j : Int) := ⟨at_.toNat, by omega⟩
    have hj2 : j < xs.length := by omega
    have ex2 : xs[j]? = some x := by
      rw [hj, atI_nat (List.getElem?_eq_getElem hj2)] at ex
      rw [← ex]
      exact List.getElem?_eq_getElem hj2
    obtain ⟨r, er, t, rfl, et⟩ := L2.paired_get wr4 ex2
    refine ⟨p, t, r, _, _, _, rfl, B4, et, Nat.le_trans (g r (List.mem_of_getElem? er)).small.2.1 (by decide), by omega, by omega, by omega, fun v rx H5 b5 hv => ?_⟩
    have ea5 := b5 _ _ ea4 nap
    have wr5 := rb B4 b5 wr4
    have e5 := b5 _ _ e4 nq1
    have b05 := b4.trans b5
    walk_at "rr"
    refine ⟨by show 1 ≤ sizeLine; decide, fun u hu => ?_⟩
    have s6 := same_new (o := .lst [v]) hu
    have eu : (upd H5 u (.lst [v])) u = some (.lst [v]) := upd_same
    have e6 := s6 _ _ e5
    have ea6 := s6 _ _ ea5
    generalize upd H5 u (.lst [v]) = H6 at s6 eu e6 ea6 ⊢
    walk_at "rr"
    have lc1 := cutV_length xs none (some at_)
    have lc2 := cutV_length xs (some (at_ + 1)) none
    refine r_cat e6 eu (sz (by show _ + 1 ≤ 100000; omega)) fun c hc => ?_
    have s7 := same_new (o := .lst (cutV xs none (some at_) ++ [v])) hc
    have ec : (upd H6 c (.lst (cutV xs none (some at_) ++ [v]))) c = some (.lst (cutV xs none (some at_) ++ [v])) := upd_same
    have ea7 := s7 _ _ ea6
    show tSl _ _ _ _ _ (upd H6 c (.lst (cutV xs none (some at_) ++ [v]))) _
    generalize upd H6 c (.lst (cutV xs none (some at_) ++ [v])) = H7 at s7 ec ea7 ⊢
    walk_at "rr"
    refine ⟨a, xs, rfl, .inl (.inl ea7), fun q3 hq3 => ?_⟩
    have s8 := same_new (o := .lst (cutV xs (some (at_ + 1)) none)) hq3
    have e8 : (upd H7 q3 (.lst (cutV xs (some (at_ + 1)) none))) q3 = some (.lst (cutV xs (some (at_ + 1)) none)) := upd_same
    have ec8 := s8 _ _ ec
    generalize upd H7 q3 (.lst (cutV xs (some (at_ + 1)) none)) = H8 at s8 e8 ec8 ⊢
    refine r_cat ec8 e8 (sz (by rw [List.length_append]; show _ + 1 + _ ≤ 100000; omega)) fun c2 hc2 => ?_
    have s9 := same_new (o := .lst ((cutV xs none (some at_) ++ [v]) ++ cutV xs (some (at_ + 1)) none)) hc2
    have S := ((s6.trans s7).trans s8).trans s9
    have wS := rows_rx (Paired.mapP wr5 fun _ _ => RowAt.same S)
    obtain ⟨z1, h1⟩ := pair_cut wS none (some at_)
    obtain ⟨z2, h2⟩ := pair_cut wS (some (at_ + 1)) none
    exact k _ (.rows ((z1 ++ [rx]) ++ z2)) _ (b05.trans (But.of S)) (.rows upd_same (paired_app (paired_app h1 (.cons (hv.same S) .nil)) h2))
/-! ### _law_right -/
abbrev s__law_right : Stmt := top 18
theorem sc__law_right : FnScope ["thing", "row", "leading"] ["thing"] (defScope s__law_right) := ⟨rfl, rfl, rfl, by decide +kernel, rfl, by decide +kernel, by decide +kernel⟩
def sp__law_right (_ : PySem.W.Frag) : Sp := fun vs H Q _ => ∃ (v : V) (t : Tg), vs = [v] ∧ TgAt H v t ∧ ∀ H', Same H H' → Q (.bl (tgOk t)) H'
theorem ok__law_right {fa : Addr} {fd : FuncData} (F : Fun K "_law_right" "_law_right" s__law_right fa fd) (TX : Tx mg) :
    FnOk P w K mg base CX0 1 fa fd ["thing"] (sp__law_right K) := by
  refine F.ok sc__law_right (fun vs H Q E h => ?_) (fun cdv A outer s H vs Q E hr h => ?_)
  · obtain ⟨v, t, rfl, ht, q⟩ := h
    rfl
  · obtain ⟨v, t, rfl, ht, q⟩ := h
    have hu := hu_of hr
    have hu64 := hr.units
    have hu65 := hu65_of hr
    refine ⟨_, (pss_cons (ps_if (pt_not (pt_val (pe_callB call_isi (by rfl) TX.n_isinstance (by decide +kernel) (pa_cons (pv 0) (pa_cons (pe_bltn (v := .ty "list") (by rfl) TX.n_list (by decide +kernel) rfl) pa_nil))))) (pss_one (ps_ret pe_bl)) pss_nil)
  (pss_cons (ps_for PassesOwn.never rfl (pi_list (pv 0)) (pg_name (i := 1) sc__law_right.nd rfl (Or.inl rfl))
  (pss_cons (ps_if (PW.pt (pw_or (pt_not (pt_val (pe_callB call_isi (by rfl) TX.n_isinstance (by decide +kernel) (pa_cons (pv 1) (pa_cons (pe_bltn (v := .ty "tuple") (by rfl) TX.n_tuple (by decide +kernel) rfl) pa_nil))))) (pw_or (pt_cmpR (op_eqT0 hu64) (pv 1) (pe_tup pa_nil) (nomark _)) (pw_or1 (pt_not (pt_val (pe_callB call_isi (by rfl) TX.n_isinstance (by decide +kernel) (pa_cons (pe_ix ix_tup (pv 1) pe_int (fun _ _ => rfl)) (pa_cons (pe_bltn (v := .ty "str") (by rfl) TX.n_str (by decide +kernel) rfl) pa_nil))))))))) (pss_one (ps_ret pe_bl)) pss_nil)
  (pss_cons (ps_if (PW.pt (pw_and (pt_cmpR op_eq (pe_callB call_len (by rfl) TX.n_len (by decide +kernel) (pa_cons (pv 1) pa_nil)) pe_int (nomark _)) (pw_and1 (pt_cmpR op_notIn_seq (pe_ix ix_tup (pv 1) pe_int (fun _ _ => rfl)) (pe_lst (pa_cons pe_str (pa_cons pe_str (pa_cons pe_str (pa_cons pe_str (pa_cons pe_str (pa_cons pe_str (pa_cons pe_str pa_nil)))))))) (by rfl))))) (pss_one (ps_ret pe_bl)) pss_nil)
  (pss_cons (ps_if (pt_cmpR op_gt (pe_callB call_len (by rfl) TX.n_len (by decide +kernel) (pa_cons (pv 1) pa_nil)) pe_int (nomark _)) (pss_one (ps_ret pe_bl)) pss_nil)
  (pss_cons (ps_if (PW.pt (pw_and (pt_cmpR op_eq (pe_callB call_len (by rfl) TX.n_len (by decide +kernel) (pa_cons (pv 1) pa_nil)) pe_int (nomark _)) (pw_and1 (PW.pt (pw_or (pt_val (pe_callB call_isi (by rfl) TX.n_isinstance (by decide +kernel) (pa_cons (pe_ix ix_tup (pv 1) pe_int (fun _ _ => rfl)) (pa_cons (pe_bltn (v := .ty "bool") (by rfl) TX.n_bool (by decide +kernel) rfl) pa_nil)))) (pw_or1 (pt_not (pt_val (pe_callB call_isi (by rfl) TX.n_isinstance (by decide +kernel) (pa_cons (pe_ix ix_tup (pv 1) pe_int (fun _ _ => rfl)) (pa_cons (pe_bltn (v := .ty "int") (by rfl) TX.n_int (by decide +kernel) rfl) pa_nil))))))))))) (pss_one (ps_ret pe_bl)) pss_nil)
  (pss_one (ps_if (PW.pt (pw_and (pt_cmpR op_eq (pe_callB call_len (by rfl) TX.n_len (by decide +kernel) (pa_cons (pv 1) pa_nil)) pe_int (nomark _)) (pw_and1 (pt_cmpR op_ne (pe_ix ix_tup (pv 1) pe_int (fun _ _ => rfl)) pe_str (nomark _))))) (pss_cons (ps_set (i := 2) sc__law_right.nd rfl (Or.inl rfl) (pe_cmpR op_in_seq (pe_ix ix_tup (pv 1) pe_int (fun _ _ => rfl)) (pe_lst (pa_cons pe_str (pa_cons pe_str (pa_cons pe_str (pa_cons pe_str pa_nil))))) (by rfl)))
  (pss_cons (ps_if (PW.pt (pw_or (pt_cmpR op_lt (pe_ix ix_tup (pv 1) pe_int (fun _ _ => rfl)) pe_int (nomark _)) (pw_or1 (PW.pt (pw_and (pt_val (pv 2)) (pw_and1 (pt_cmpR op_gt (pe_ix ix_tup (pv 1) pe_int (fun _ _ => rfl)) (pe_callB call_len (by rfl) TX.n_len (by decide +kernel) (pa_cons (pv 0) pa_nil)) (nomark _)))))))) (pss_one (ps_ret pe_bl)) pss_nil)
  (pss_one (ps_if (PW.pt (pw_and (pt_not (pt_val (pv 2))) (pw_and1 (pt_cmpR op_notIn_seq (pe_ix ix_tup (pv 1) pe_int (fun _ _ => rfl)) (pe_lst (pa_cons pe_str (pa_cons pe_str (pa_cons pe_str (pa_cons pe_str (pa_cons pe_str pa_nil)))))) (by rfl))))) (pss_one (ps_ret pe_bl)) pss_nil)))) pss_nil)))))))
  (pss_one (ps_ret pe_bl)))), ?_⟩
    refine r_begin (show L2.start _ _ = [some _, none, none] from rfl) ?_
    try dsimp only [cxOf]
    walk_at "rr"
    cases ht with
    | oth h n =>
      refine r_isi h.ty (kit_list _ h.k7) ?_
      rw [n]
      walk_at "rr"
      (try refine r_itT rfl ?_)
      walk_at "rr"
      exact q _ (Same.refl H)
    | @rows a xs rs ea0 wr0 =>
    have lx := Paired.length wr0
    have q : ∀ H', Same H H' → Q (.bl (rs.all (rxOk (rs.length : Int)))) H' := q
    refine r_isi (ty_lst ea0) (kit_list _ (by decide)) ?_
    walk_at "rr"
    refine r_itF rfl ?_
    walk_at "rr"
    refine r_ilw ea0 ?_
    refine L_list (xs := xs) (fun i σ H1 => (∃ (u1 u2 : Option V), σ = [some (.ref a), u1, u2]) ∧ Same H H1 ∧ (rs.take i).all (rxOk (rs.length : Int)) = true) ⟨⟨_, _, rfl⟩, Same.refl H, rfl⟩ ?_ ?_ ?_
    · rintro i σ H1 hi ⟨⟨u1, u2, rfl⟩, s1, hall⟩
      exact .inl (.inl (s1 _ _ ea0))
    · rintro i xv σ H1 hx ⟨⟨u1, u2, rfl⟩, s1, hall⟩
      obtain ⟨r, er, hr1⟩ := L2.paired_get wr0 hx
      have hw := hr1.same s1
      have ea1 := s1 _ _ ea0
      have go : rxOk (rs.length : Int) r = true → ∀ H' u3 u4, Same H H' → (∃ (u1 u2 : Option V), [some (V.ref a), u3, u4] = [some (.ref a), u1, u2]) ∧ Same H H' ∧ (rs.take (i + 1)).all (rxOk (rs.length : Int)) = true := fun ho H' u3 u4 s => ⟨⟨_, _, rfl⟩, s, by
        rw [List.take_add_one, er, List.all_append, hall]
        simpa using ho⟩
      have no : rxOk (rs.length : Int) r = false → ∀ H', Same H H' → Q (.bl false) H' := fun ho H' s => by
        have : rs.all (rxOk (rs.length : Int)) = false := List.all_eq_false.mpr ⟨r, List.mem_of_getElem? er, by rw [ho]; decide⟩
        rw [← this]
        exact q H' s
      clear hr1
      walk_at "rr"
      cases hw with
      | oth h n =>
        refine r_isi h.ty (kit_tuple _ h.k7) ?_
        rw [n]
        walk_at "rr"
        (try refine r_itT rfl ?_)
        walk_at "rr"
        exact no rfl _ s1
      | @tup b ys l eb p =>
      refine r_isi (ty_tup eb) (kit_tuple _ (by decide)) ?_
      walk_at "rr"
      refine r_itF rfl ?_
      walk_at "rr"
      refine ⟨by show 0 ≤ sizeLine; decide, fun t0 h0 => ?_⟩
      have s2 := s1.trans (same_new (o := .tup []) h0)
      have eb2 := same_new (o := .tup []) h0 _ _ eb
      have et0 : (upd H1 t0 (.tup [])) t0 = some (.tup []) := upd_same
      have nbt : b ≠ t0 := ne_of_none eb h0
      have p2 := Paired.mapP p fun _ _ => ThgAt.same (same_new (o := .tup []) h0)
      have ea2 := same_new (o := .tup []) h0 _ _ ea1
      generalize upd H1 t0 (.tup []) = H2 at s2 eb2 et0 p2 ea2 ⊢
      refine ⟨b, t0, ys, rfl, rfl, .inl (.inl eb2), .inl (.inl et0), nbt, ?_⟩
      walk_at "rr"
      match l, ys, p2, eb2, no, go with
      | [], _, .nil, eb2, no, go =>
        (try refine r_itT (by rfl) ?_)
        walk_at "rr"
        exact no rfl _ s2
      | [x], _, .cons (a := v) hx0 .nil, eb2, no, go =>
        (try refine r_itF (by rfl) ?_)
        walk_at "rr"
        (try refine r_ixt eb2 rfl ?_)
        walk_at "rr"
        refine r_isi hx0.ty (kit_str _ hx0.k7) ?_
        walk_at "rr"
        cases x with
        | o T =>
          (try rw [show ((Thg.o T).kind == "str") = false from hx0.noS])
          (try refine r_itT (by rfl) ?_)
          walk_at "rr"
          exact no rfl _ s2
        | i m =>
          (try rw [show ((Thg.o T).kind == "str") = false from hx0.noS])
          (try refine r_itT (by rfl) ?_)
          walk_at "rr"
          exact no rfl _ s2
        | s w =>
          cases (show v = _ from hx0)
          have ho : rxOk (rs.length : Int) (.tup [.s w]) = decide (w ∈ bare) := rfl
          refine r_itF (by rfl) ?_
          walk_at "rr"
          refine r_lent eb2 ?_
          walk_at "rr"
          refine r_itT (by rfl) ?_
          walk_at "rr"
          (try refine r_ixt eb2 rfl ?_)
          walk_at "rr"
          refine ⟨by show 7 ≤ sizeLine; decide, fun t1 h1 => ?_⟩
          have s3 := s2.trans (same_new (o := .lst (bare.map V.str)) h1)
          have eb3 := same_new (o := .lst (bare.map V.str)) h1 _ _ eb2
          have et1 : (upd H2 t1 (.lst (bare.map V.str))) t1 = some (.lst (bare.map V.str)) := upd_same
          refine ⟨t1, bare.map V.str, rfl, .inl (.inl (.inl et1)), rfl, by decide, ?_⟩
          rw [inV_strs]
          (try refine r_bl ?_)
          by_cases hb : w ∈ bare
          · rw [decide_eq_true hb] at ho ⊢
            (try refine r_itF (by rfl) ?_)
            walk_at "rr"
            refine r_lent eb3 ?_
            walk_at "rr"
            refine r_itF (by rfl) ?_
            walk_at "rr"
            refine r_lent eb3 ?_
            walk_at "rr"
            refine r_itF (by rfl) ?_
            walk_at "rr"
            refine r_lent eb3 ?_
            walk_at "rr"
            refine r_itF (by rfl) ?_
            walk_at "rr"
            exact go ho _ _ _ s3
          · rw [decide_eq_false hb] at ho ⊢
            (try refine r_itT (by rfl) ?_)
            walk_at "rr"
            exact no ho _ s3
      | [x, y], _, .cons (a := v) hx0 (.cons (a := u) hy0 .nil), eb2, no, go =>
        (try refine r_itF (by rfl) ?_)
        walk_at "rr"
        (try refine r_ixt eb2 rfl ?_)
        walk_at "rr"
        refine r_isi hx0.ty (kit_str _ hx0.k7) ?_
        walk_at "rr"
        cases x with
        | o T =>
          (try rw [show ((Thg.o T).kind == "str") = false from hx0.noS])
          (try refine r_itT (by rfl) ?_)
          walk_at "rr"
          exact no rfl _ s2
        | i m =>
          (try rw [show ((Thg.o T).kind == "str") = false from hx0.noS])
          (try refine r_itT (by rfl) ?_)
          walk_at "rr"
          exact no rfl _ s2
        | s w =>
          cases (show v = _ from hx0)
          refine r_itF (by rfl) ?_
          walk_at "rr"
          refine r_lent eb2 ?_
          walk_at "rr"
          refine r_itF (by rfl) ?_
          walk_at "rr"
          refine r_lent eb2 ?_
          walk_at "rr"
          refine r_itF (by rfl) ?_
          walk_at "rr"
          refine r_lent eb2 ?_
          walk_at "rr"
          refine r_itT (by rfl) ?_
          walk_at "rr"
          (try refine r_ixt eb2 rfl ?_)
          walk_at "rr"
          cases y with
          | s z =>
            refine r_isi hy0.ty (kit_bool _ hy0.k7) ?_
            walk_at "rr"
            (try refine r_itF (by rfl) ?_)
            walk_at "rr"
            (try refine r_ixt eb2 rfl ?_)
            walk_at "rr"
            (try refine r_isi hy0.ty (kit_int _ hy0.k7) ?_)
            walk_at "rr"
            (try refine r_itT (by rfl) ?_)
            walk_at "rr"
            exact no rfl _ s2
          | o T =>
            refine r_isi hy0.ty (kit_bool _ hy0.k7) ?_
            walk_at "rr"
            refine r_ite (fun hc => ?_) (fun hc => ?_)
            · (try refine r_itT (by rfl) ?_)
              walk_at "rr"
              exact no rfl _ s2
            · (try refine r_ixt eb2 rfl ?_)
              walk_at "rr"
              refine r_isi hy0.ty (kit_int _ hy0.k7) ?_
              rw [show ((Thg.o T).kind == "int") = false from hy0.noI, hc]
              walk_at "rr"
              (try refine r_itT (by rfl) ?_)
              walk_at "rr"
              exact no rfl _ s2
          | i n =>
          cases (show u = _ from hy0)
          have ho : rxOk (rs.length : Int) (.tup [.s w, .i n]) = rw2 (rs.length : Int) w n := rfl
          unfold rw2 at ho
          refine r_isi hy0.ty (kit_bool _ hy0.k7) ?_
          walk_at "rr"
          (try refine r_itF (by rfl) ?_)
          walk_at "rr"
          (try refine r_ixt eb2 rfl ?_)
          walk_at "rr"
          (try refine r_isi hy0.ty (kit_int _ hy0.k7) ?_)
          walk_at "rr"
          (try refine r_itF (by rfl) ?_)
          walk_at "rr"
          refine r_lent eb2 ?_
          walk_at "rr"
          refine r_itT (by rfl) ?_
          walk_at "rr"
          (try refine r_ixt eb2 rfl ?_)
          walk_at "rr"
          (try rw [dstr])
          by_cases hp : w = "put"
          · rw [if_pos hp] at ho
            refine r_itF (by rw [decide_eq_true hp]; rfl) ?_
            walk_at "rr"
            exact go ho _ _ _ s2
          rw [if_neg hp] at ho
          refine r_itT (by rw [decide_eq_false hp]; rfl) ?_
          walk_at "rr"
          refine ⟨by show 4 ≤ sizeLine; decide, fun t1 h1 => ?_⟩
          have s3 := s2.trans (same_new (o := .lst (leading.map V.str)) h1)
          have eb3 := same_new (o := .lst (leading.map V.str)) h1 _ _ eb2
          have ea3 := same_new (o := .lst (leading.map V.str)) h1 _ _ ea2
          have et1 : (upd H2 t1 (.lst (leading.map V.str))) t1 = some (.lst (leading.map V.str)) := upd_same
          refine ⟨t1, leading.map V.str, rfl, .inl (.inl (.inl et1)), rfl, by decide, ?_⟩
          rw [inV_strs]
          walk_at "rr"
          (try refine r_ixt eb3 rfl ?_)
          walk_at "rr"
          by_cases h0 : n < 0
          · (try refine r_itT (decide_eq_true h0) ?_)
            walk_at "rr"
            refine no ?_ _ s3
            rw [ho]
            split
            · exact decide_eq_false (by omega)
            · rw [decide_eq_false (show ¬ 0 ≤ n by omega), Bool.false_and, Bool.and_false]
          (try refine r_itF (decide_eq_false h0) ?_)
          walk_at "rr"
          by_cases hl : w ∈ leading
          · rw [if_neg (nreach_of hl), decide_eq_true hl, decide_eq_true (show 0 ≤ n by omega), Bool.true_and, Bool.true_and] at ho
            rw [decide_eq_true hl]
            (try refine r_itT rfl ?_)
            walk_at "rr"
            (try refine r_ixt eb3 rfl ?_)
            walk_at "rr"
            (try refine r_lenl ea3 ?_)
            rw [lx]
            walk_at "rr"
            by_cases hm : n ≤ (rs.length : Int)
            · rw [decide_eq_true hm] at ho
              (try refine r_itF (decide_eq_false (by omega)) ?_)
              walk_at "rr"
              (try refine r_itF rfl ?_)
              walk_at "rr"
              exact go ho _ _ _ s3
            · rw [decide_eq_false hm] at ho
              (try refine r_itT (decide_eq_true (by omega)) ?_)
              walk_at "rr"
              exact no ho _ s3
          · rw [decide_eq_false hl, Bool.false_and] at ho
            rw [decide_eq_false hl]
            (try refine r_itF rfl ?_)
            walk_at "rr"
            (try refine r_itT rfl ?_)
            walk_at "rr"
            (try refine r_ixt eb3 rfl ?_)
            walk_at "rr"
            refine ⟨by show 5 ≤ sizeLine; decide, fun t2 h2 => ?_⟩
            have h2 : (upd H2 t1 (.lst (leading.map V.str))) t2 = none := h2
            have s4 := s3.trans (same_new (o := .lst (reaching.map V.str)) h2)
            have et2 : (upd (upd H2 t1 (.lst (leading.map V.str))) t2 (.lst (reaching.map V.str))) t2 = some (.lst (reaching.map V.str)) := upd_same
            refine ⟨t2, reaching.map V.str, rfl, .inl (.inl (.inl et2)), rfl, by decide, ?_⟩
            rw [inV_strs]
            (try refine r_bl ?_)
            by_cases hr1 : w ∈ reaching
            · rw [if_pos hr1, decide_eq_true (show 0 ≤ n by omega)] at ho
              rw [decide_eq_true hr1]
              (try refine r_itF (by rfl) ?_)
              walk_at "rr"
              exact go ho _ _ _ s4
            · rw [if_neg hr1] at ho
              rw [decide_eq_false hr1]
              (try refine r_itT (by rfl) ?_)
              walk_at "rr"
              exact no ho _ s4
      | x :: y :: z :: l, ys, p2, eb2, no, go =>
        have ho : rxOk (rs.length : Int) (.tup (x :: y :: z :: l)) = false := by cases x <;> first | rfl | (cases y <;> rfl)
        have no := no ho
        have ly := Paired.length p2
        have l3 : ys.length = l.length + 3 := by rw [ly]; rfl
        match ys, p2, eb2, l3 with
        | v :: yt, .cons hx0 _, eb2, l3 =>
        refine r_itF (decide_eq_false (by omega)) ?_
        walk_at "rr"
        refine r_ixt eb2 (show atI (v :: yt) 0 = some v from atI_nat (j := 0) rfl) ?_
        walk_at "rr"
        refine r_isi hx0.ty (kit_str _ hx0.k7) ?_
        walk_at "rr"
        refine r_ite (fun hc => ?_) (fun hc => ?_)
        · walk_at "rr"
          exact no _ s2
        · walk_at "rr"
          refine r_lent eb2 ?_
          rw [l3]
          walk_at "rr"
          refine r_itF (decide_eq_false (by omega)) ?_
          walk_at "rr"
          refine r_lent eb2 ?_
          rw [l3]
          walk_at "rr"
          refine r_itT (decide_eq_true (by omega)) ?_
          walk_at "rr"
          exact no _ s2
    · rintro σ H1 ⟨⟨u1, u2, rfl⟩, s1, hall⟩
      rw [lx, List.take_length] at hall
      walk_at "rr"
      rw [← hall]
      exact q _ s1
/-! ### law -/
abbrev s_law : Stmt := top 19
theorem sc_law : FnScope ["script", "cells", "rows", "thing", "before", "found", "cell"] ["script"] (defScope s_law) := ⟨rfl, rfl, rfl, by decide +kernel, rfl, by decide +kernel, by decide +kernel⟩
def sp_law (K : PySem.W.Frag) : Sp := fun vs H Q _ => ∃ (a : Addr) (ns : List Int), vs = [.ref a] ∧ SqL K H a (ns.map V.int) ∧ ns.length ≤ 63 ∧ (∀ z ∈ ns, PySem.Builtin.Int.intBits z ≤ 1048576) ∧ ∀ H', Q (.bl true) H'
theorem ok_law {fa : Addr} {fd : FuncData} (F : Fun K "law" "law" s_law fa fd) (TX : Tx mg)
    (C__law_bag : Cal P w K mg base CX0 1 "_law_bag" ["cell"] (sp__law_bag K))
    (C__law_cell_at : Cal P w K mg base CX0 1 "_law_cell_at" ["script", "k"] (sp__law_cell_at K))
    (C__law_right : Cal P w K mg base CX0 1 "_law_right" ["thing"] (sp__law_right K))
    (C__law_row : Cal P w K mg base CX0 3 "_law_row" ["bag", "many"] (sp__law_row K))
    (C__law_thing : Cal P w K mg base CX0 4 "_law_thing" ["bag", "rows"] (sp__law_thing K))
    (C_is_program : Cal P w K mg base CX0 3 "is_program" ["thing"] (sp_is_program K)) :
    FnOk P w K mg base CX0 5 fa fd ["script"] (sp_law K) := by
  refine F.ok sc_law (fun vs H Q E h => ?_) (fun cdv A outer s H vs Q E hr h => ?_)
  · obtain ⟨a, ns, rfl, hS, hn, hbits, q⟩ := h
    rfl
  · obtain ⟨a, ns, rfl, hS, hn, hbits, q⟩ := h
    have hu := hu_of hr
    have hu64 := hr.units
    have hu65 := hu65_of hr
    refine ⟨_, (pss_cons (ps_set (i := 1) sc_law.nd rfl (Or.inr rfl) (pe_slice sl_list (pv 0) (po_some pe_int) (po_some pe_int)))
  (pss_cons (ps_setLc (i := 2) (own := [("cell", 6)]) (g := gName 6) (tt := tYes) rfl sc_law.nd rfl rfl (sw_true rfl rfl rfl (by decide +kernel)) (pi_list (pv 1)) (blkOk_by (own := [("cell", 6)]) (N := ["script", "cells", "rows", "thing", "before", "found", "cell"]) (sc := defScope s_law) (by decide +kernel)) (fun _ _ _ _ _ => (pg_name (i := 6) sc_law.nd rfl (Or.inl rfl))) (fun _ _ _ _ _ => pts_nil) (fun _ _ _ _ _ => (pe_cal C__law_row (hr.mono (by decide)) (by rfl) pass0 (pa_cons (pe_cal C__law_bag (hr.mono (by decide)) (by rfl) pass0 (pa_cons (pv 6) pa_nil)) (pa_cons (pe_callB (kCallR (rLenK K) call_len rfl) (by rfl) TX.n_len (by decide +kernel) (pa_cons (pv 1) pa_nil)) pa_nil)))))
  (pss_cons (ps_set (i := 3) sc_law.nd rfl (Or.inl rfl) (pe_cal C__law_thing (hr.mono (by decide)) (by rfl) pass0 (pa_cons (pe_cal C__law_bag (hr.mono (by decide)) (by rfl) pass0 (pa_cons (pe_cal C__law_cell_at (hr.mono (by decide)) (by rfl) pass0 (pa_cons (pv 0) (pa_cons pe_int pa_nil))) pa_nil)) (pa_cons (pv 2) pa_nil))))
  (pss_cons (ps_set (i := 4) sc_law.nd rfl (Or.inl rfl) (pv 3))
  (pss_cons (ps_if (pt_val (pe_callB call_isi (by rfl) TX.n_isinstance (by decide +kernel) (pa_cons (pv 3) (pa_cons (pe_bltn (v := .ty "list") (by rfl) TX.n_list (by decide +kernel) rfl) pa_nil)))) (pss_one (ps_set (i := 4) sc_law.nd rfl (Or.inl rfl) (pe_callTy (kCallR (rListOf K) call_list_of rfl) (by rfl) TX.n_list (by decide +kernel) (pa_cons (pv 3) pa_nil)))) pss_nil)
  (pss_cons (ps_set (i := 5) sc_law.nd rfl (Or.inl rfl) (pe_cal C_is_program (hr.mono (by decide)) (by rfl) pass0 (pa_cons (pv 3) pa_nil)))
  (pss_cons (ps_if (PW.pt (pw_or (pt_not (pt_val (pe_callB call_isi (by rfl) TX.n_isinstance (by decide +kernel) (pa_cons (pv 5) (pa_cons (pe_bltn (v := .ty "bool") (by rfl) TX.n_bool (by decide +kernel) rfl) pa_nil))))) (pw_or (pt_cmpR op_ne (pv 5) (pe_cal C__law_right (hr.mono (by decide)) (by rfl) pass0 (pa_cons (pv 4) pa_nil)) (nomark _)) (pw_or1 (pt_cmpR (op_neI hu64) (pv 3) (pv 4) (nomark _)))))) (pss_one (ps_ret pe_bl)) pss_nil)
  (pss_one (ps_ret (pe_cmpR op_isBl (pe_cal C_is_program (hr.mono (by decide)) (by rfl) pass0 (pa_cons (pv 2) pa_nil)) pe_bl (nomark _))))))))))), ?_⟩
    refine r_begin (show L2.start _ _ = [some _, none, none, none, none, none, none] from rfl) ?_
    try dsimp only [cxOf]
    walk_at "rr"
    refine ⟨a, _, rfl, hS, fun c0 hc0 => ?_⟩
    obtain ⟨ms, em, lm⟩ : ∃ ms : List Int, cutV (ns.map V.int) (some 1) (some 61) = ms.map V.int ∧ ms.length ≤ 63 := by
      refine ⟨(ns.drop (HT.sIx (ns.map V.int).length 0 (some 1))).take (HT.sIx (ns.map V.int).length (ns.map V.int).length (some 61) - HT.sIx (ns.map V.int).length 0 (some 1)), ?_, ?_⟩
      · unfold cutV
        rw [List.map_take, List.map_drop]
      · rw [List.length_take, List.length_drop]
        omega
    rw [em]
    have s1 := same_new (o := .lst (ms.map V.int)) hc0
    have e1 : (upd H c0 (.lst (ms.map V.int))) c0 = some (.lst (ms.map V.int)) := upd_same
    show gName 1 _ _ (upd H c0 (.lst (ms.map V.int))) _
    generalize upd H c0 (.lst (ms.map V.int)) = H1 at s1 e1 ⊢
    walk_at "rr"
    refine ⟨c0, rfl, ⟨_, .inl (.inl e1)⟩, ?_⟩
    refine C_list (a := c0) (xs := ms.map V.int) (fun D i H3 => H1 D = none ∧ ∃ (xs : List V) (rs : List Row), H3 D = some (.lst xs) ∧ Same H1 H3 ∧ xs.length = i ∧ Paired (RowAt H3) xs rs ∧ ∀ r ∈ rs, GoodRow (ms.length : Int) r)
      (fun D hD => ⟨hD, [], [], upd_same, same_new hD, rfl, .nil, fun r m => (by cases m)⟩) (fun D i H3 hi ⟨hD, xs, rs, eD, s3, _⟩ => .inl (.inl (s3 _ _ e1))) ?_ ?_
    · rintro D i x H3 hx ⟨hD, xs, rs, eD, s3, lx, wr, g⟩
      have hi : i < ms.length := by
        have := (List.getElem?_eq_some_iff.mp hx).1
        rwa [List.length_map] at this
      rw [List.getElem?_map] at hx
      obtain ⟨c, ec, rfl⟩ := Option.map_eq_some_iff.mp hx
      have e3 := s3 _ _ e1
      walk_at "rr"
      refine ⟨c, rfl, fun p H4 hp s4 B4 => ?_⟩
      have e4 := s4 _ _ e3
      walk_at "rr"
      refine ⟨_, _, rfl, .inl ⟨_, .inl (.inl e4), rfl⟩, ?_⟩
      rw [List.length_map]
      walk_at "rr"
      refine ⟨p, _, _, rfl, B4, by omega, by omega, by decide, fun t r H5 ht hr5 gr b5 => ?_⟩
      have s5 : Same H3 H5 := But.back s4 hp b5
      have eD5 := s5 _ _ eD
      have up : ∀ {v : V} {r : Row}, RowAt H5 v r → RowAt (upd H5 D (.lst (xs ++ [V.ref t]))) v r := by
        rintro v r ⟨a, e, h⟩
        exact ⟨a, e, by rw [upd_ne (fun e => by rw [e, eD5] at h; cases h)]; exact h⟩
      refine ⟨xs, eD5, szl (by omega), hD, xs ++ [V.ref t], rs ++ [r], upd_same, Same.own (s3.trans s5) hD, by rw [List.length_append, lx]; rfl, paired_app (Paired.mapP wr fun _ _ h => up (h.same s5)) (.cons (up hr5) .nil), fun x mx => ?_⟩
      rcases List.mem_append.mp mx with mx | mx
      · exact g x mx
      · rw [List.mem_singleton.mp mx]
        exact gr
    rintro D H3 hD ⟨_, xs, rs, eD, s3, lx, wr, g⟩
    rw [List.length_map] at lx
    have lr := paired_len wr
    walk_at "rr"
    refine ⟨a, ns, 0, rfl, (s1.trans s3).seq hS, by decide, hn, fun c => ?_⟩
    walk_at "rr"
    refine ⟨c, rfl, fun p H4 hp s4 B4 => ?_⟩
    have eD4 := s4 _ _ eD
    have nDp : D ≠ p := fun e => by rw [e, hp] at eD; cases eD
    walk_at "rr"
    refine ⟨p, D, xs, rs, _, _, rfl, B4, nDp, eD4, Paired.mapP wr fun _ _ => RowAt.same s4, g, by omega, by decide, fun v t H5 b5 ht => ?_⟩
    have s5 : Same H3 H5 := But.back s4 hp b5
    have eD5 := s5 _ _ eD
    have wr5 := Paired.mapP wr fun _ _ => RowAt.same s5
    have right : tgOk (.rows (rs.map rxOf)) = true := by
      show (rs.map rxOf).all (rxOk ((rs.map rxOf).length : Int)) = true
      rw [List.length_map, List.all_map, List.all_eq_true]
      intro r m
      have e : (ms.length : Int) = (rs.length : Int) := by omega
      have := (g r m).rx
      rw [e] at this
      exact this
    have last : ∀ H6, Same H5 H6 → TgAt H6 (.ref D) (.rows (rs.map rxOf)) := fun H6 s => .rows (s _ _ eD5) (rows_rx (Paired.mapP wr5 fun _ _ => RowAt.same s))
    walk_at "rr"
    cases ht with
    | oth hx n hs =>
      refine r_isi hx.ty (kit_list _ hx.k7) ?_
      rw [n]
      walk_at "rr"
      (try refine r_itF rfl ?_)
      walk_at "rr"
      refine ⟨v, .oth _, rfl, .oth hx n, ?_⟩
      walk_at "rr"
      (try refine r_isi ty_bl (kit_bool _ (by decide)) ?_)
      walk_at "rr"
      (try refine r_itF rfl ?_)
      walk_at "rr"
      refine ⟨v, .oth _, rfl, .oth hx n, fun H7 s7 => ?_⟩
      walk_at "rr"
      refine r_itF (by rw [decide_eq_true rfl]; rfl) ?_
      walk_at "rr"
      refine r_neOk (hs.same s7) ?_
      walk_at "rr"
      (try refine r_itF rfl ?_)
      walk_at "rr"
      refine ⟨.ref D, _, rfl, last _ s7, ?_⟩
      rw [right]
      walk_at "rr"
      exact q _
    | @rows l ys ts el w =>
      refine r_isi (ty_lst el) (kit_list _ (by decide)) ?_
      walk_at "rr"
      (try refine r_itT rfl ?_)
      walk_at "rr"
      refine ⟨l, _, rfl, .inl (.inl (.inl el)), fun q1 hq1 => ?_⟩
      have s6 := same_new (o := .lst ys) hq1
      have eq6 : (upd H5 q1 (.lst ys)) q1 = some (.lst ys) := upd_same
      have el6 := s6 _ _ el
      have w6 : Paired (RxAt _) ys ts := Paired.mapP w fun _ _ => RxAt.same s6
      generalize upd H5 q1 (.lst ys) = H6 at s6 eq6 el6 w6 ⊢
      walk_at "rr"
      refine ⟨.ref l, .rows ts, rfl, .rows el6 w6, ?_⟩
      walk_at "rr"
      (try refine r_isi ty_bl (kit_bool _ (by decide)) ?_)
      walk_at "rr"
      (try refine r_itF rfl ?_)
      walk_at "rr"
      refine ⟨.ref q1, .rows ts, rfl, .rows eq6 w6, fun H7 s7 => ?_⟩
      walk_at "rr"
      refine r_itF (by rw [decide_eq_true rfl]; rfl) ?_
      walk_at "rr"
      refine .inl ⟨.inl ⟨l, q1, ys, rfl, rfl, .inl (.inl (s7 _ _ el6)), .inl (.inl (s7 _ _ eq6)), paired_id w6⟩, ?_⟩
      walk_at "rr"
      (try refine r_itF rfl ?_)
      walk_at "rr"
      refine ⟨.ref D, _, rfl, last _ (s6.trans s7), ?_⟩
      rw [right]
      walk_at "rr"
      exact q _
end
theorem all_mk {l : PySem.W.OpenLaw} {w : World} {K : PySem.W.Frag} {h : Heap} {mg : Str → Option Value} {fa : Addr} {f1 f2 f3 f4 f5 f6 f7 f8 f9 f10 f11 f12 f13 f14 : Addr} (X : K.In h) (G : h.Ns mainGlobals mg) (hfa : mg "law" = some (.ref fa))
    {od1 an1 od2 an2 od3 an3 od4 an4 od5 an5 od6 an6 od7 an7 od8 an8 od9 an9 od10 an10 od11 an11 od12 an12 od13 an13 od14 an14 : Option Addr} {sl1 sl2 sl3 sl4 sl5 sl6 sl7 sl8 sl9 sl10 sl11 sl12 sl13 sl14 : Array (Option Value)} {oc1 kV1 dc1 pm1 cd1 ct1 oc2 kV2 dc2 pm2 cd2 ct2 oc3 kV3 dc3 pm3 cd3 ct3 oc4 kV4 dc4 pm4 cd4 ct4 oc5 kV5 dc5 pm5 cd5 ct5 oc6 kV6 dc6 pm6 cd6 ct6 oc7 kV7 dc7 pm7 cd7 ct7 oc8 kV8 dc8 pm8 cd8 ct8 oc9 kV9 dc9 pm9 cd9 ct9 oc10 kV10 dc10 pm10 cd10 ct10 oc11 kV11 dc11 pm11 cd11 ct11 oc12 kV12 dc12 pm12 cd12 ct12 oc13 kV13 dc13 pm13 cd13 ct13 oc14 kV14 dc14 pm14 cd14 ct14 : Value}
    (a1 : PySem.W.nsIn K mainGlobals "is_whole" = some (some (.ref f1))) (l1 : K.lookup f1 = some ⟨oc1, od1, .func (PySem.W.fnOf "is_whole" "is_whole" (defArgs s_is_whole) (defBody s_is_whole) (defScope s_is_whole) .none kV1 dc1 pm1 an1 cd1 ct1), sl1⟩) (c1 : PySem.W.codeIn K cd1 "is_whole" = true) (k1 : PySem.W.keepIn K (.ref f1) = true)
    (a2 : PySem.W.nsIn K mainGlobals "is_row" = some (some (.ref f2))) (l2 : K.lookup f2 = some ⟨oc2, od2, .func (PySem.W.fnOf "is_row" "is_row" (defArgs s_is_row) (defBody s_is_row) (defScope s_is_row) .none kV2 dc2 pm2 an2 cd2 ct2), sl2⟩) (c2 : PySem.W.codeIn K cd2 "is_row" = true) (k2 : PySem.W.keepIn K (.ref f2) = true)
    (a3 : PySem.W.nsIn K mainGlobals "is_program" = some (some (.ref f3))) (l3 : K.lookup f3 = some ⟨oc3, od3, .func (PySem.W.fnOf "is_program" "is_program" (defArgs s_is_program) (defBody s_is_program) (defScope s_is_program) .none kV3 dc3 pm3 an3 cd3 ct3), sl3⟩) (c3 : PySem.W.codeIn K cd3 "is_program" = true) (k3 : PySem.W.keepIn K (.ref f3) = true)
    (a4 : PySem.W.nsIn K mainGlobals "_law_cell_at" = some (some (.ref f4))) (l4 : K.lookup f4 = some ⟨oc4, od4, .func (PySem.W.fnOf "_law_cell_at" "_law_cell_at" (defArgs s__law_cell_at) (defBody s__law_cell_at) (defScope s__law_cell_at) .none kV4 dc4 pm4 an4 cd4 ct4), sl4⟩) (c4 : PySem.W.codeIn K cd4 "_law_cell_at" = true) (k4 : PySem.W.keepIn K (.ref f4) = true)
    (a5 : PySem.W.nsIn K mainGlobals "_law_bag" = some (some (.ref f5))) (l5 : K.lookup f5 = some ⟨oc5, od5, .func (PySem.W.fnOf "_law_bag" "_law_bag" (defArgs s__law_bag) (defBody s__law_bag) (defScope s__law_bag) .none kV5 dc5 pm5 an5 cd5 ct5), sl5⟩) (c5 : PySem.W.codeIn K cd5 "_law_bag" = true) (k5 : PySem.W.keepIn K (.ref f5) = true)
    (a6 : PySem.W.nsIn K mainGlobals "_law_draw" = some (some (.ref f6))) (l6 : K.lookup f6 = some ⟨oc6, od6, .func (PySem.W.fnOf "_law_draw" "_law_draw" (defArgs s__law_draw) (defBody s__law_draw) (defScope s__law_draw) .none kV6 dc6 pm6 an6 cd6 ct6), sl6⟩) (c6 : PySem.W.codeIn K cd6 "_law_draw" = true) (k6 : PySem.W.keepIn K (.ref f6) = true)
    (a7 : PySem.W.nsIn K mainGlobals "_law_number" = some (some (.ref f7))) (l7 : K.lookup f7 = some ⟨oc7, od7, .func (PySem.W.fnOf "_law_number" "_law_number" (defArgs s__law_number) (defBody s__law_number) (defScope s__law_number) .none kV7 dc7 pm7 an7 cd7 ct7), sl7⟩) (c7 : PySem.W.codeIn K cd7 "_law_number" = true) (k7 : PySem.W.keepIn K (.ref f7) = true)
    (a8 : PySem.W.nsIn K mainGlobals "_law_row" = some (some (.ref f8))) (l8 : K.lookup f8 = some ⟨oc8, od8, .func (PySem.W.fnOf "_law_row" "_law_row" (defArgs s__law_row) (defBody s__law_row) (defScope s__law_row) .none kV8 dc8 pm8 an8 cd8 ct8), sl8⟩) (c8 : PySem.W.codeIn K cd8 "_law_row" = true) (k8 : PySem.W.keepIn K (.ref f8) = true)
    (a9 : PySem.W.nsIn K mainGlobals "_law_odd" = some (some (.ref f9))) (l9 : K.lookup f9 = some ⟨oc9, od9, .func (PySem.W.fnOf "_law_odd" "_law_odd" (defArgs s__law_odd) (defBody s__law_odd) (defScope s__law_odd) .none kV9 dc9 pm9 an9 cd9 ct9), sl9⟩) (c9 : PySem.W.codeIn K cd9 "_law_odd" = true) (k9 : PySem.W.keepIn K (.ref f9) = true)
    (a10 : PySem.W.nsIn K mainGlobals "_law_other_word" = some (some (.ref f10))) (l10 : K.lookup f10 = some ⟨oc10, od10, .func (PySem.W.fnOf "_law_other_word" "_law_other_word" (defArgs s__law_other_word) (defBody s__law_other_word) (defScope s__law_other_word) .none kV10 dc10 pm10 an10 cd10 ct10), sl10⟩) (c10 : PySem.W.codeIn K cd10 "_law_other_word" = true) (k10 : PySem.W.keepIn K (.ref f10) = true)
    (a11 : PySem.W.nsIn K mainGlobals "_law_other_row" = some (some (.ref f11))) (l11 : K.lookup f11 = some ⟨oc11, od11, .func (PySem.W.fnOf "_law_other_row" "_law_other_row" (defArgs s__law_other_row) (defBody s__law_other_row) (defScope s__law_other_row) .none kV11 dc11 pm11 an11 cd11 ct11), sl11⟩) (c11 : PySem.W.codeIn K cd11 "_law_other_row" = true) (k11 : PySem.W.keepIn K (.ref f11) = true)
    (a12 : PySem.W.nsIn K mainGlobals "_law_thing" = some (some (.ref f12))) (l12 : K.lookup f12 = some ⟨oc12, od12, .func (PySem.W.fnOf "_law_thing" "_law_thing" (defArgs s__law_thing) (defBody s__law_thing) (defScope s__law_thing) .none kV12 dc12 pm12 an12 cd12 ct12), sl12⟩) (c12 : PySem.W.codeIn K cd12 "_law_thing" = true) (k12 : PySem.W.keepIn K (.ref f12) = true)
    (a13 : PySem.W.nsIn K mainGlobals "_law_right" = some (some (.ref f13))) (l13 : K.lookup f13 = some ⟨oc13, od13, .func (PySem.W.fnOf "_law_right" "_law_right" (defArgs s__law_right) (defBody s__law_right) (defScope s__law_right) .none kV13 dc13 pm13 an13 cd13 ct13), sl13⟩) (c13 : PySem.W.codeIn K cd13 "_law_right" = true) (k13 : PySem.W.keepIn K (.ref f13) = true)
    (a14 : PySem.W.nsIn K mainGlobals "law" = some (some (.ref f14))) (l14 : K.lookup f14 = some ⟨oc14, od14, .func (PySem.W.fnOf "law" "law" (defArgs s_law) (defBody s_law) (defScope s_law) .none kV14 dc14 pm14 an14 cd14 ct14), sl14⟩) (c14 : PySem.W.codeIn K cd14 "law" = true) (k14 : PySem.W.keepIn K (.ref f14) = true)
    (z0 : PySem.W.nsIn K mainGlobals "len" = some none) (z1 : PySem.W.nsIn K mainGlobals "isinstance" = some none) (z2 : PySem.W.nsIn K mainGlobals "range" = some none) (z3 : PySem.W.nsIn K mainGlobals "max" = some none) (z4 : PySem.W.nsIn K mainGlobals "min" = some none) (z5 : PySem.W.nsIn K mainGlobals "int" = some none) (z6 : PySem.W.nsIn K mainGlobals "bool" = some none) (z7 : PySem.W.nsIn K mainGlobals "str" = some none) (z8 : PySem.W.nsIn K mainGlobals "list" = some none) (z9 : PySem.W.nsIn K mainGlobals "tuple" = some none) (z10 : PySem.W.nsIn K mainGlobals "dict" = some none) (z11 : PySem.W.nsIn K mainGlobals "sorted" = some none) (z12 : PySem.W.nsIn K mainGlobals "sum" = some none) (z13 : PySem.W.nsIn K mainGlobals "all" = some none) (z14 : PySem.W.nsIn K mainGlobals "any" = some none) (z15 : PySem.W.nsIn K mainGlobals "enumerate" = some none) (z16 : PySem.W.nsIn K mainGlobals "zip" = some none) (z17 : PySem.W.nsIn K mainGlobals "reversed" = some none) (z18 : PySem.W.nsIn K mainGlobals "ValueError" = some none) (z19 : PySem.W.nsIn K mainGlobals "abs" = some none)
    {aRe aLe2 aBa : Addr} {dRe dLe2 dBa : Option Addr} {iRe iLe2 iBa : Array Value} {nRe nLe2 nBa : Nat} {sRe sLe2 sBa : Array (Option Value)}
    (gRe : PySem.W.nsIn K mainGlobals "REACHING" = some (some (.ref aRe))) (lRe : K.lookup aRe = some ⟨.type "tuple", dRe, .seq iRe nRe, sRe⟩) (vRe : strsS iRe.toList = reaching.map some)
    (gLe2 : PySem.W.nsIn K mainGlobals "LEADING" = some (some (.ref aLe2))) (lLe2 : K.lookup aLe2 = some ⟨.type "tuple", dLe2, .seq iLe2 nLe2, sLe2⟩) (vLe2 : strsS iLe2.toList = leading.map some)
    (gBa : PySem.W.nsIn K mainGlobals "BARE" = some (some (.ref aBa))) (lBa : K.lookup aBa = some ⟨.type "tuple", dBa, .seq iBa nBa, sBa⟩) (vBa : strsS iBa.toList = bare.map some)
    : ∃ fd : FuncData, (∀ (s : Shared) (v : Value), BindsTo s fd ⟨[v], []⟩ [("script", v)]) ∧ ∀ base : Heap, K.In base → base.Ns mainGlobals mg → FnOk l.prog w K mg base CX0 5 fa fd ["script"] (sp_law K) := by
  have e := hfa.symm.trans (PySem.W.mg_of X G a14)
  cases e
  have F1 := fun_mk (st := s_is_whole) l1 c1 k1
  have b1 := F1.binds (ps := ["thing"]) fun _ _ _ _ _ _ us hl => match us, hl with | [_], _ => rfl
  have F2 := fun_mk (st := s_is_row) l2 c2 k2
  have b2 := F2.binds (ps := ["thing", "many"]) fun _ _ _ _ _ _ us hl => match us, hl with | [_, _], _ => rfl
  have F3 := fun_mk (st := s_is_program) l3 c3 k3
  have b3 := F3.binds (ps := ["thing"]) fun _ _ _ _ _ _ us hl => match us, hl with | [_], _ => rfl
  have F4 := fun_mk (st := s__law_cell_at) l4 c4 k4
  have b4 := F4.binds (ps := ["script", "k"]) fun _ _ _ _ _ _ us hl => match us, hl with | [_, _], _ => rfl
  have F5 := fun_mk (st := s__law_bag) l5 c5 k5
  have b5 := F5.binds (ps := ["cell"]) fun _ _ _ _ _ _ us hl => match us, hl with | [_], _ => rfl
  have F6 := fun_mk (st := s__law_draw) l6 c6 k6
  have b6 := F6.binds (ps := ["bag", "many"]) fun _ _ _ _ _ _ us hl => match us, hl with | [_, _], _ => rfl
  have F7 := fun_mk (st := s__law_number) l7 c7 k7
  have b7 := F7.binds (ps := ["bag"]) fun _ _ _ _ _ _ us hl => match us, hl with | [_], _ => rfl
  have F8 := fun_mk (st := s__law_row) l8 c8 k8
  have b8 := F8.binds (ps := ["bag", "many"]) fun _ _ _ _ _ _ us hl => match us, hl with | [_, _], _ => rfl
  have F9 := fun_mk (st := s__law_odd) l9 c9 k9
  have b9 := F9.binds (ps := ["bag"]) fun _ _ _ _ _ _ us hl => match us, hl with | [_], _ => rfl
  have F10 := fun_mk (st := s__law_other_word) l10 c10 k10
  have b10 := F10.binds (ps := ["bag", "word"]) fun _ _ _ _ _ _ us hl => match us, hl with | [_, _], _ => rfl
  have F11 := fun_mk (st := s__law_other_row) l11 c11 k11
  have b11 := F11.binds (ps := ["bag", "row", "many", "way"]) fun _ _ _ _ _ _ us hl => match us, hl with | [_, _, _, _], _ => rfl
  have F12 := fun_mk (st := s__law_thing) l12 c12 k12
  have b12 := F12.binds (ps := ["bag", "rows"]) fun _ _ _ _ _ _ us hl => match us, hl with | [_, _], _ => rfl
  have F13 := fun_mk (st := s__law_right) l13 c13 k13
  have b13 := F13.binds (ps := ["thing"]) fun _ _ _ _ _ _ us hl => match us, hl with | [_], _ => rfl
  have F14 := fun_mk (st := s_law) l14 c14 k14
  have TX : Tx mg := ⟨PySem.W.mg_none_of X G z0, PySem.W.mg_none_of X G z1, PySem.W.mg_none_of X G z2, PySem.W.mg_none_of X G z3, PySem.W.mg_none_of X G z4, PySem.W.mg_none_of X G z5, PySem.W.mg_none_of X G z6, PySem.W.mg_none_of X G z7, PySem.W.mg_none_of X G z8, PySem.W.mg_none_of X G z9, PySem.W.mg_none_of X G z10, PySem.W.mg_none_of X G z11, PySem.W.mg_none_of X G z12, PySem.W.mg_none_of X G z13, PySem.W.mg_none_of X G z14, PySem.W.mg_none_of X G z15, PySem.W.mg_none_of X G z16, PySem.W.mg_none_of X G z17, PySem.W.mg_none_of X G z18, PySem.W.mg_none_of X G z19⟩
  have g_REACHING : mg "REACHING" = some (.ref aRe) := PySem.W.mg_of X G gRe
  have g_LEADING : mg "LEADING" = some (.ref aLe2) := PySem.W.mg_of X G gLe2
  have g_BARE : mg "BARE" = some (.ref aBa) := PySem.W.mg_of X G gBa
  have t_REACHING : TopT K aRe reaching := TopT.of lRe vRe (by decide)
  have t_LEADING : TopT K aLe2 leading := TopT.of lLe2 vLe2 (by decide)
  have t_BARE : TopT K aBa bare := TopT.of lBa vBa (by decide)
  refine ⟨PySem.W.fnOf "law" "law" (defArgs s_law) (defBody s_law) (defScope s_law) .none kV14 dc14 pm14 an14 cd14 ct14, fun s v => .of_eq rfl, fun base _ _ => ?_⟩
  have C_is_whole := Cal.of (ok_is_whole (P := l.prog) (w := w) (K := K) (mg := mg) (base := base) F1 TX) b1 k1 (PySem.W.mg_of X G a1)
  have C_is_row := Cal.of (ok_is_row (P := l.prog) (w := w) (K := K) (mg := mg) (base := base) F2 TX C_is_whole g_REACHING g_LEADING g_BARE t_REACHING t_LEADING t_BARE) b2 k2 (PySem.W.mg_of X G a2)
  have C_is_program := Cal.of (ok_is_program (P := l.prog) (w := w) (K := K) (mg := mg) (base := base) F3 TX C_is_row) b3 k3 (PySem.W.mg_of X G a3)
  have C__law_cell_at := Cal.of (ok__law_cell_at (P := l.prog) (w := w) (K := K) (mg := mg) (base := base) F4 TX) b4 k4 (PySem.W.mg_of X G a4)
  have C__law_bag := Cal.of (ok__law_bag (P := l.prog) (w := w) (K := K) (mg := mg) (base := base) F5 TX) b5 k5 (PySem.W.mg_of X G a5)
  have C__law_draw := Cal.of (ok__law_draw (P := l.prog) (w := w) (K := K) (mg := mg) (base := base) F6 TX) b6 k6 (PySem.W.mg_of X G a6)
  have C__law_number := Cal.of (ok__law_number (P := l.prog) (w := w) (K := K) (mg := mg) (base := base) F7 TX C__law_draw) b7 k7 (PySem.W.mg_of X G a7)
  have C__law_row := Cal.of (ok__law_row (P := l.prog) (w := w) (K := K) (mg := mg) (base := base) F8 TX C__law_draw C__law_number) b8 k8 (PySem.W.mg_of X G a8)
  have C__law_odd := Cal.of (ok__law_odd (P := l.prog) (w := w) (K := K) (mg := mg) (base := base) F9 TX C__law_draw) b9 k9 (PySem.W.mg_of X G a9)
  have C__law_other_word := Cal.of (ok__law_other_word (P := l.prog) (w := w) (K := K) (mg := mg) (base := base) F10 TX C__law_draw) b10 k10 (PySem.W.mg_of X G a10)
  have C__law_other_row := Cal.of (ok__law_other_row (P := l.prog) (w := w) (K := K) (mg := mg) (base := base) F11 TX C__law_draw C__law_odd C__law_other_word) b11 k11 (PySem.W.mg_of X G a11)
  have C__law_thing := Cal.of (ok__law_thing (P := l.prog) (w := w) (K := K) (mg := mg) (base := base) F12 TX C__law_draw C__law_other_row) b12 k12 (PySem.W.mg_of X G a12)
  have C__law_right := Cal.of (ok__law_right (P := l.prog) (w := w) (K := K) (mg := mg) (base := base) F13 TX) b13 k13 (PySem.W.mg_of X G a13)
  exact ok_law F14 TX C__law_bag C__law_cell_at C__law_right C__law_row C__law_thing C_is_program
end Q
open PySem PySem.W PyProof.Rows
set_option maxHeartbeats 0 in
theorem PySem.Challenge.cw_manygoings_k47_what_is_a_program_holds : PySem.Challenge.rw_manygoings_k47_what_is_a_program.Holds := by
  w_on; o_law; k_head; (case hw => w_witness2)
  k_fill
  refine L2.walk_ofB (l := PySem.Challenge.rw_manygoings_k47_what_is_a_program) (n := 63) (k := 5) (x := "script") (CX := fun _ => L2.CX0) (sp := fun w => Q.sp_law _) rfl (by decide) rfl ⟨rfl, by decide, by decide⟩ (fun w h Y => PySem.W.kIn_of Y) ?F (fun _ _ a ns hl hb _ hS => ⟨a, ns, rfl, hS, hl, hb, fun _ => rfl⟩) (fun _ _ _ _ _ h => h)
  case F =>
    intro w mg fa h KX G hmg
    refine' Q.all_mk KX G hmg ?a1 ?l1 ?c1 ?k1 ?a2 ?l2 ?c2 ?k2 ?a3 ?l3 ?c3 ?k3 ?a4 ?l4 ?c4 ?k4 ?a5 ?l5 ?c5 ?k5 ?a6 ?l6 ?c6 ?k6 ?a7 ?l7 ?c7 ?k7 ?a8 ?l8 ?c8 ?k8 ?a9 ?l9 ?c9 ?k9 ?a10 ?l10 ?c10 ?k10 ?a11 ?l11 ?c11 ?k11 ?a12 ?l12 ?c12 ?k12 ?a13 ?l13 ?c13 ?k13 ?a14 ?l14 ?c14 ?k14 ?z0 ?z1 ?z2 ?z3 ?z4 ?z5 ?z6 ?z7 ?z8 ?z9 ?z10 ?z11 ?z12 ?z13 ?z14 ?z15 ?z16 ?z17 ?z18 ?z19 ?gRe ?lRe ?vRe ?gLe2 ?lLe2 ?vLe2 ?gBa ?lBa ?vBa
    (case a1 => k_is)
    (case l1 => k_is)
    (case c1 => k_is)
    (case k1 => k_is)
    (case a2 => k_is)
    (case l2 => k_is)
    (case c2 => k_is)
    (case k2 => k_is)
    (case a3 => k_is)
    (case l3 => k_is)
    (case c3 => k_is)
    (case k3 => k_is)
    (case a4 => k_is)
    (case l4 => k_is)
    (case c4 => k_is)
    (case k4 => k_is)
    (case a5 => k_is)
    (case l5 => k_is)
    (case c5 => k_is)
    (case k5 => k_is)
    (case a6 => k_is)
    (case l6 => k_is)
    (case c6 => k_is)
    (case k6 => k_is)
    (case a7 => k_is)
    (case l7 => k_is)
    (case c7 => k_is)
    (case k7 => k_is)
    (case a8 => k_is)
    (case l8 => k_is)
    (case c8 => k_is)
    (case k8 => k_is)
    (case a9 => k_is)
    (case l9 => k_is)
    (case c9 => k_is)
    (case k9 => k_is)
    (case a10 => k_is)
    (case l10 => k_is)
    (case c10 => k_is)
    (case k10 => k_is)
    (case a11 => k_is)
    (case l11 => k_is)
    (case c11 => k_is)
    (case k11 => k_is)
    (case a12 => k_is)
    (case l12 => k_is)
    (case c12 => k_is)
    (case k12 => k_is)
    (case a13 => k_is)
    (case l13 => k_is)
    (case c13 => k_is)
    (case k13 => k_is)
    (case a14 => k_is)
    (case l14 => k_is)
    (case c14 => k_is)
    (case k14 => k_is)
    (case z0 => k_is)
    (case z1 => k_is)
    (case z2 => k_is)
    (case z3 => k_is)
    (case z4 => k_is)
    (case z5 => k_is)
    (case z6 => k_is)
    (case z7 => k_is)
    (case z8 => k_is)
    (case z9 => k_is)
    (case z10 => k_is)
    (case z11 => k_is)
    (case z12 => k_is)
    (case z13 => k_is)
    (case z14 => k_is)
    (case z15 => k_is)
    (case z16 => k_is)
    (case z17 => k_is)
    (case z18 => k_is)
    (case z19 => k_is)
    (case gRe => k_is)
    (case lRe => k_is)
    (case gLe2 => k_is)
    (case lLe2 => k_is)
    (case gBa => k_is)
    (case lBa => k_is)
    (case vRe => rfl)
    (case vLe2 => rfl)
    (case vBa => rfl)
